import PyProof.Rows.All
import Wide.All
import OpenK.AllK
import Wide.FinOn
import HandS.ForMost
import HandS.ForExc
import HandS.TupAny
import PyProof.StrBlock2
import HandS.IsInst
import HandS.ExcCtx
import HandS.ExcIs
import HandS.Zip
import HandS.Conv
import KE.OsSetLaws
import HandS.TryMany
import HandS.HotCalls
import PySem.Challenge.RW_groupmarks_k05_ways_walked
set_option Elab.async false
set_option linter.all false
set_option maxRecDepth 100000
set_option autoImplicit false
/-! A layer of my own over the hand layer: readings over plain data (PyData), no heap in sight. -/
namespace GM
open PySem PySem.Spec L2

/-! ### data, slots, outcomes -/
inductive Er where
  | bad | twice | empt | way
  deriving DecidableEq
/-- what a slot holds: nothing, data, a list of one's own, a dict of one's own -/
inductive Sl where
  | emp
  | dat (d : PyData)
  | own (l : List PyData)
  | dic (l : List (Key × PyData))
  /-- an exception at hand, of the kind c, its object at a -/
  | exc (a : Addr) (c : Er)
abbrev En := List Sl
inductive Out (α : Type) where
  | ok (a : α) (r : En)
  | err (c : Er) (r : En)
  | bot
def Out.bind {α β : Type} : Out α → (α → En → Out β) → Out β
  | .ok a r, f => f a r
  | .err c r, _ => .err c r
  | .bot, _ => .bot
@[simp] theorem bind_ok {α β : Type} (a : α) (r : En) (f : α → En → Out β) : (Out.ok a r).bind f = f a r := rfl
@[simp] theorem bind_err {α β : Type} (c : Er) (r : En) (f : α → En → Out β) : (Out.err c r : Out α).bind f = .err c r := rfl
@[simp] theorem bind_bot {α β : Type} (f : α → En → Out β) : (Out.bot : Out α).bind f = .bot := rfl
@[simp] def ofO {α : Type} : Option α → En → Out α
  | some a, r => .ok a r
  | none, _ => .bot
inductive Res where
  | ok (s : Sl)
  | err (c : Er)
  | bot
def Sl.mine : Sl → Bool
  | .own _ => true
  | .dic _ => true
  | _ => false

/-! ### a value is data: as L2.Dp, and an empty dict within -/
mutual
inductive Dp (K : PySem.W.Frag) (G : Hp) : V → PyData → Prop
  | non : Dp K G .non .none
  | bl (b : Bool) : Dp K G (.bl b) (.bool b)
  | int (i : Int) : Dp K G (.int i) (.int i)
  | str (x : Str) : Dp K G (.str x) (.str x)
  | lst {a : Addr} {xs : List V} {ds : List PyData} : SqL K G a xs → DpAll K G xs ds → Dp K G (.ref a) (.list ds)
  | tup {a : Addr} {xs : List V} {ds : List PyData} : SqT K G a xs → DpAll K G xs ds → Dp K G (.ref a) (.tuple ds)
  | dic0 {a : Addr} : G a = some (.dK []) → Dp K G (.ref a) (.dict [])
inductive DpAll (K : PySem.W.Frag) (G : Hp) : List V → List PyData → Prop
  | nil : DpAll K G [] []
  | cons {v : V} {vs : List V} {d : PyData} {ds : List PyData} : Dp K G v d → DpAll K G vs ds → DpAll K G (v :: vs) (d :: ds)
end
mutual
theorem dp_lib {K : PySem.W.Frag} {G : Hp} : ∀ (d : PyData) (v : V), d.canLay0 = true → Dp K G v d → L2.Dp K G v d
  | .none, _, _, h => by cases h; exact .non
  | .bool _, _, _, h => by cases h; exact .bl _
  | .int _, _, _, h => by cases h; exact .int _
  | .str _, _, _, h => by cases h; exact .str _
  | .list ds, _, z, h => by
    cases h with
    | lst h1 h2 => exact .lst h1 (dpAll_lib ds _ (by simpa only [PyData.canLay0] using z) h2)
  | .tuple ds, _, z, h => by
    cases h with
    | tup h1 h2 => exact .tup h1 (dpAll_lib ds _ (by simpa only [PyData.canLay0] using z) h2)
  | .dict _, _, z, _ => by simp [PyData.canLay0] at z
theorem dpAll_lib {K : PySem.W.Frag} {G : Hp} : ∀ (ds : List PyData) (vs : List V), PyData.canLayAll0 ds = true → DpAll K G vs ds → L2.DpAll K G vs ds
  | [], _, _, h => by cases h; exact .nil
  | d :: ds, _, z, h => by
    have z' : d.canLay0 = true ∧ PyData.canLayAll0 ds = true := by simpa [PyData.canLayAll0] using z
    cases h with
    | cons h1 h2 => exact .cons (dp_lib d _ z'.1 h1) (dpAll_lib ds _ z'.2 h2)
end
/-! ### Same carries data -/
theorem same_upd {H : Hp} {p : Addr} {o : HO} (h : H p = none) : Same H (upd H p o) := fun b x e => by
  rw [upd_ne (ne_of_none e h)]
  exact e
theorem same_mut {B H : Hp} {p : Addr} {o : HO} (s : Same B H) (h : B p = none) : Same B (upd H p o) := fun b x e => by
  rw [upd_ne (ne_of_none e h)]
  exact s b x e
theorem same_t {K : PySem.W.Frag} {H H' : Hp} {a : Addr} {xs : List V} (e : Same H H') (h : SqT K H a xs) : SqT K H' a xs := by
  rcases h with (h | ⟨o, h⟩) | h
  · exact .inl (.inl (e _ _ h))
  · exact .inl (.inr ⟨o, e _ _ h⟩)
  · exact .inr h
mutual
theorem dp_same {K : PySem.W.Frag} {G G' : Hp} (e : Same G G') : ∀ (d : PyData) (v : V), Dp K G v d → Dp K G' v d
  | .none, _, h => by cases h; exact .non
  | .bool _, _, h => by cases h; exact .bl _
  | .int _, _, h => by cases h; exact .int _
  | .str _, _, h => by cases h; exact .str _
  | .list ds, _, h => by
    cases h with
    | lst h1 h2 => exact .lst (e.seq h1) (dpAll_same e ds _ h2)
  | .tuple ds, _, h => by
    cases h with
    | tup h1 h2 => exact .tup (same_t e h1) (dpAll_same e ds _ h2)
  | .dict _, _, h => by
    cases h with
    | dic0 h1 => exact .dic0 (e _ _ h1)
theorem dpAll_same {K : PySem.W.Frag} {G G' : Hp} (e : Same G G') : ∀ (ds : List PyData) (vs : List V), DpAll K G vs ds → DpAll K G' vs ds
  | [], _, h => by cases h; exact .nil
  | d :: ds, _, h => by
    cases h with
    | cons h1 h2 => exact .cons (dp_same e d _ h1) (dpAll_same e ds _ h2)
end
section
variable {K : PySem.W.Frag} {G : Hp}
theorem dpAll_len : ∀ {vs : List V} {ds : List PyData}, DpAll K G vs ds → vs.length = ds.length
  | _, _, .nil => rfl
  | _, _, .cons _ t => by rw [List.length_cons, List.length_cons, dpAll_len t]
theorem dpAll_get : ∀ {vs : List V} {ds : List PyData}, DpAll K G vs ds → ∀ (i : Nat) (d : PyData), ds[i]? = some d → ∃ v, vs[i]? = some v ∧ Dp K G v d
  | _, _, .nil, i, d, h => by simp at h
  | _, _, .cons r t, 0, d, h => by
    simp at h
    subst h
    exact ⟨_, rfl, r⟩
  | _, _, .cons r t, i + 1, d, h => by
    obtain ⟨v, h1, h2⟩ := dpAll_get t i d (by simpa using h)
    exact ⟨v, by simpa using h1, h2⟩
theorem dpAll_append : ∀ {vs ws : List V} {ds es : List PyData}, DpAll K G vs ds → DpAll K G ws es → DpAll K G (vs ++ ws) (ds ++ es)
  | _, _, _, _, .nil, h => h
  | _, _, _, _, .cons r t, h => .cons r (dpAll_append t h)
theorem dpAll_take : ∀ {vs : List V} {ds : List PyData} (n : Nat), DpAll K G vs ds → DpAll K G (vs.take n) (ds.take n)
  | _, _, 0, _ => .nil
  | _, _, _ + 1, .nil => .nil
  | _, _, n + 1, .cons r t => .cons r (dpAll_take n t)
theorem dpAll_drop : ∀ {vs : List V} {ds : List PyData} (n : Nat), DpAll K G vs ds → DpAll K G (vs.drop n) (ds.drop n)
  | _, _, 0, h => h
  | _, _, _ + 1, .nil => .nil
  | _, _, n + 1, .cons _ t => dpAll_drop n t
theorem dpAll_reverse {vs : List V} {ds : List PyData} (h : DpAll K G vs ds) : DpAll K G vs.reverse ds.reverse := by
  match vs, ds, h with
  | _, _, .nil => exact .nil
  | _, _, .cons r t =>
    rw [List.reverse_cons, List.reverse_cons]
    exact dpAll_append (dpAll_reverse t) (.cons r .nil)
theorem dpAll_dropLast {vs : List V} {ds : List PyData} (h : DpAll K G vs ds) : DpAll K G vs.dropLast ds.dropLast := by
  rw [List.dropLast_eq_take, List.dropLast_eq_take, dpAll_len h]
  exact dpAll_take _ h
theorem dpAll_ints : ∀ ns : List Int, DpAll K G (ns.map V.int) (ns.map PyData.int)
  | [] => .nil
  | _ :: ns => .cons (.int _) (dpAll_ints ns)
end
/-- the pairs of a dict -/
def KvAll (K : PySem.W.Frag) (G : Hp) (kvs : List (Key × V)) (l : List (Key × PyData)) : Prop := kvs.map (·.1) = l.map (·.1) ∧ DpAll K G (kvs.map (·.2)) (l.map (·.2))
theorem kvAll_same {K : PySem.W.Frag} {G G' : Hp} (e : Same G G') {kvs : List (Key × V)} {l : List (Key × PyData)} (h : KvAll K G kvs l) : KvAll K G' kvs l := ⟨h.1, dpAll_same e _ _ h.2⟩

/-! ### the environment -/
def SlOk (K : PySem.W.Frag) (B G H : Hp) (v : Option V) : Sl → Prop
  | .emp => True
  | .dat d => ∃ x, v = some x ∧ Dp K G x d
  | .own l => ∃ p vs, v = some (.ref p) ∧ G p = none ∧ B p = none ∧ H p = some (.lst vs) ∧ DpAll K G vs l
  | .exc a _ => v = some (.ref a)
  | .dic l => ∃ p kvs, v = some (.ref p) ∧ G p = none ∧ B p = none ∧ H p = some (.dK kvs) ∧ KvAll K G kvs l
def MineAt (σ : St) (r : En) (i : Nat) (p : Addr) : Prop := σ[i]? = some (some (.ref p)) ∧ ∃ s, r[i]? = some s ∧ s.mine = true
structure EO (K : PySem.W.Frag) (B G0 G H : Hp) (σ : St) (r : En) : Prop where
  bh : Same B H
  gh : Same G H
  gg : Same G0 G
  grow : ∀ p, G p ≠ none → G0 p ≠ none ∨ B p = none
  len : σ.length = r.length
  slot : ∀ (i : Nat) (s : Sl), r[i]? = some s → ∃ v, σ[i]? = some v ∧ SlOk K B G H v s
  dist : ∀ (i j : Nat) (p : Addr), MineAt σ r i p → MineAt σ r j p → i = j
/-- what stands of the heaps, whatever the slots hold -/
structure EB (B G0 G H : Hp) : Prop where
  bh : Same B H
  gh : Same G H
  gg : Same G0 G
  grow : ∀ p, G p ≠ none → G0 p ≠ none ∨ B p = none
theorem EO.eb {K : PySem.W.Frag} {B G0 G H : Hp} {σ : St} {r : En} (e : EO K B G0 G H σ r) : EB B G0 G H := ⟨e.bh, e.gh, e.gg, e.grow⟩
/-- a value as a result -/
def VO (K : PySem.W.Frag) (B G H : Hp) (σ : St) (r : En) (v : V) : Sl → Prop
  | .emp => False
  | .dat d => Dp K G v d
  | .own l => ∃ p vs, v = .ref p ∧ G p = none ∧ B p = none ∧ H p = some (.lst vs) ∧ DpAll K G vs l ∧ ∀ i, ¬ MineAt σ r i p
  | .exc a _ => v = .ref a
  | .dic l => ∃ p kvs, v = .ref p ∧ G p = none ∧ B p = none ∧ H p = some (.dK kvs) ∧ KvAll K G kvs l ∧ ∀ i, ¬ MineAt σ r i p
section
variable {K : PySem.W.Frag} {B G0 G G' H H' : Hp} {σ : St} {r : En}
/-- an address of one's own -/
theorem EO.mine (e : EO K B G0 G H σ r) {i : Nat} {p : Addr} (m : MineAt σ r i p) : G p = none ∧ B p = none ∧ ∃ o, H p = some o := by
  obtain ⟨h1, s, h2, h3⟩ := m
  obtain ⟨v, h4, h5⟩ := e.slot i s h2
  rw [h1] at h4
  cases h4
  cases s with
  | emp => cases h3
  | exc a c => cases h3
  | dat d => cases h3
  | own l =>
    obtain ⟨q, vs, e1, e2, e3, e4, _⟩ := h5
    cases e1
    exact ⟨e2, e3, _, e4⟩
  | dic l =>
    obtain ⟨q, vs, e1, e2, e3, e4, _⟩ := h5
    cases e1
    exact ⟨e2, e3, _, e4⟩
theorem SlOk.mono {v : Option V} {s : Sl} (h : SlOk K B G H v s) (gg : Same G G') (keep : ∀ p, v = some (.ref p) → s.mine = true → H' p = H p ∧ G' p = none) : SlOk K B G' H' v s := by
  cases s with
  | emp => trivial
  | exc a c => exact h
  | dat d =>
    obtain ⟨x, h1, h2⟩ := h
    exact ⟨x, h1, dp_same gg _ _ h2⟩
  | own l =>
    obtain ⟨p, vs, e1, e2, e3, e4, e5⟩ := h
    obtain ⟨k1, k2⟩ := keep p e1 rfl
    exact ⟨p, vs, e1, k2, e3, k1.trans e4, dpAll_same gg _ _ e5⟩
  | dic l =>
    obtain ⟨p, vs, e1, e2, e3, e4, e5⟩ := h
    obtain ⟨k1, k2⟩ := keep p e1 rfl
    exact ⟨p, vs, e1, k2, e3, k1.trans e4, kvAll_same gg e5⟩
/-- the general step: heaps grow, what is one's own stays -/
theorem EO.step (e : EO K B G0 G H σ r) (bh : Same B H') (gg : Same G G') (gh : Same G' H') (new : ∀ p, G' p ≠ none → G p ≠ none ∨ (B p = none ∧ ∀ i, ¬ MineAt σ r i p)) (keep : ∀ i p, MineAt σ r i p → H' p = H p) :
    EO K B G0 G' H' σ r := by
  refine ⟨bh, gh, fun p o h => gg p o (e.gg p o h), fun p h => ?_, e.len, fun i s hs => ?_, e.dist⟩
  · rcases new p h with h | h
    · exact e.grow p h
    · exact .inr h.1
  · obtain ⟨v, h1, h2⟩ := e.slot i s hs
    refine ⟨v, h1, h2.mono gg fun p hp hm => ?_⟩
    have m : MineAt σ r i p := ⟨by rw [h1, hp], s, hs, hm⟩
    refine ⟨keep i p m, ?_⟩
    cases q : G' p with
    | none => rfl
    | some o =>
      rcases new p (by rw [q]; exact fun z => nomatch z) with h | h
      · exact absurd (e.mine m).1 h
      · exact absurd m (h.2 i)
theorem EO.notMine (e : EO K B G0 G H σ r) {p : Addr} (h : H p = none) (i : Nat) : ¬ MineAt σ r i p := fun m => by
  obtain ⟨_, _, o, ho⟩ := e.mine m
  rw [h] at ho
  cases ho
/-- new data -/
theorem EO.newDat (e : EO K B G0 G H σ r) {p : Addr} {o : HO} (h : H p = none) : EO K B G0 (upd G p o) (upd H p o) σ r := by
  have hG : G p = none := e.gh.free h
  have hB : B p = none := e.bh.free h
  refine e.step (same_mut e.bh hB) (same_upd hG) ?_ (fun q hq => ?_) (fun i q m => ?_)
  · intro b x hb
    by_cases hbp : b = p
    · subst hbp
      rw [upd_same] at hb ⊢
      exact hb
    · rw [upd_ne hbp] at hb ⊢
      exact e.gh b x hb
  · by_cases hqp : q = p
    · subst hqp
      exact .inr ⟨hB, e.notMine h⟩
    · rw [upd_ne hqp] at hq
      exact .inl hq
  · have hqp : q ≠ p := fun z => e.notMine h i (z ▸ m)
    exact upd_ne hqp
/-- a new object that is one's own -/
theorem EO.newOwn (e : EO K B G0 G H σ r) {p : Addr} {o : HO} (h : H p = none) : EO K B G0 G (upd H p o) σ r := by
  have hG : G p = none := e.gh.free h
  have hB : B p = none := e.bh.free h
  refine e.step (same_mut e.bh hB) (Same.refl G) (same_mut e.gh hG) (fun q hq => .inl hq) (fun i q m => ?_)
  have hqp : q ≠ p := fun z => e.notMine h i (z ▸ m)
  exact upd_ne hqp
theorem EO.vOwn (e : EO K B G0 G H σ r) {p : Addr} {vs : List V} {l : List PyData} (h : H p = none) (d : DpAll K G vs l) : VO K B G (upd H p (.lst vs)) σ r (.ref p) (.own l) :=
  ⟨p, vs, rfl, e.gh.free h, e.bh.free h, upd_same, d, e.notMine h⟩
theorem EO.vDic (e : EO K B G0 G H σ r) {p : Addr} {vs : List (Key × V)} {l : List (Key × PyData)} (h : H p = none) (d : KvAll K G vs l) : VO K B G (upd H p (.dK vs)) σ r (.ref p) (.dic l) :=
  ⟨p, vs, rfl, e.gh.free h, e.bh.free h, upd_same, d, e.notMine h⟩
/-- a list of one's own becomes data -/
theorem EO.freeze (e : EO K B G0 G H σ r) {p : Addr} {o : HO} (hG : G p = none) (hB : B p = none) (hH : H p = some o) (n : ∀ i, ¬ MineAt σ r i p) : EO K B G0 (upd G p o) H σ r := by
  refine e.step e.bh (same_upd hG) ?_ (fun q hq => ?_) (fun _ _ _ => rfl)
  · intro b x hb
    by_cases hbp : b = p
    · subst hbp
      rw [upd_same] at hb
      cases hb
      exact hH
    · rw [upd_ne hbp] at hb
      exact e.gh b x hb
  · by_cases hqp : q = p
    · subst hqp
      exact .inr ⟨hB, n⟩
    · rw [upd_ne hqp] at hq
      exact .inl hq
theorem VO.slOk {v : V} {s : Sl} (h : VO K B G H σ r v s) : SlOk K B G H (some v) s := by
  cases s with
  | emp => exact h.elim
  | exc a c => exact congrArg some h
  | dat d => exact ⟨v, rfl, h⟩
  | own l =>
    obtain ⟨p, vs, e1, e2, e3, e4, e5, _⟩ := h
    exact ⟨p, vs, by rw [e1], e2, e3, e4, e5⟩
  | dic l =>
    obtain ⟨p, vs, e1, e2, e3, e4, e5, _⟩ := h
    exact ⟨p, vs, by rw [e1], e2, e3, e4, e5⟩
theorem VO.notMine {v : V} {s : Sl} (h : VO K B G H σ r v s) {p : Addr} (hv : v = .ref p) (hs : s.mine = true) (i : Nat) : ¬ MineAt σ r i p := by
  cases s with
  | emp => cases hs
  | exc a c => cases hs
  | dat d => cases hs
  | own l =>
    obtain ⟨q, vs, e1, _, _, _, _, n⟩ := h
    rw [hv] at e1
    cases e1
    exact n i
  | dic l =>
    obtain ⟨q, vs, e1, _, _, _, _, n⟩ := h
    rw [hv] at e1
    cases e1
    exact n i
theorem get_set_cases {α : Type} {l : List α} {i j : Nat} {a b : α} (h : (l.set i a)[j]? = some b) : (j = i ∧ b = a ∧ i < l.length) ∨ (j ≠ i ∧ l[j]? = some b) := by
  by_cases hj : j = i
  · subst hj
    by_cases hl : j < l.length
    · rw [List.getElem?_set_self hl] at h
      exact .inl ⟨rfl, (Option.some.inj h).symm, hl⟩
    · have hl2 : (l.set j a).length ≤ j := by
        rw [List.length_set]
        omega
      rw [List.getElem?_eq_none hl2] at h
      cases h
  · rw [List.getElem?_set_ne (Ne.symm hj)] at h
    exact .inr ⟨hj, h⟩
theorem MineAt.set {i j : Nat} {p : Addr} {v : V} {s : Sl} (m : MineAt (σ.set i (some v)) (r.set i s) j p) : (j = i ∧ v = .ref p ∧ s.mine = true) ∨ (j ≠ i ∧ MineAt σ r j p) := by
  obtain ⟨h1, t, h2, h3⟩ := m
  rcases get_set_cases h1 with ⟨q1, q2, _⟩ | ⟨q1, q2⟩
  · rcases get_set_cases h2 with ⟨_, w2, _⟩ | ⟨w1, _⟩
    · exact .inl ⟨q1, (Option.some.inj q2).symm, w2 ▸ h3⟩
    · exact absurd q1 w1
  · rcases get_set_cases h2 with ⟨w1, _, _⟩ | ⟨_, w2⟩
    · exact absurd w1 q1
    · exact .inr ⟨q1, q2, t, w2, h3⟩
/-- a name is stored -/
theorem EO.set (e : EO K B G0 G H σ r) (i : Nat) {v : V} {s : Sl} (h : VO K B G H σ r v s) : EO K B G0 G H (σ.set i (some v)) (r.set i s) := by
  refine ⟨e.bh, e.gh, e.gg, e.grow, by simp [e.len], fun j t ht => ?_, fun j k p mj mk => ?_⟩
  · rcases get_set_cases ht with ⟨q1, q2, q3⟩ | ⟨q1, q2⟩
    · subst q1 q2
      exact ⟨some v, List.getElem?_set_self (by rw [e.len]; exact q3), h.slOk⟩
    · obtain ⟨w, h1, h2⟩ := e.slot j t q2
      exact ⟨w, by rw [List.getElem?_set_ne (Ne.symm q1)]; exact h1, h2⟩
  · rcases mj.set with ⟨a1, a2, a3⟩ | ⟨a1, a2⟩
    · rcases mk.set with ⟨b1, _, _⟩ | ⟨b1, b2⟩
      · rw [a1, b1]
      · exact absurd b2 (h.notMine a2 a3 k)
    · rcases mk.set with ⟨b1, b2, b3⟩ | ⟨b1, b2⟩
      · exact absurd a2 (h.notMine b2 b3 j)
      · exact e.dist j k p a2 b2
theorem mineAt_set_r {i j : Nat} {p : Addr} {s t : Sl} (hi : r[i]? = some t) (m : MineAt σ (r.set i s) j p) : (j = i ∧ s.mine = true ∧ σ[i]? = some (some (.ref p))) ∨ (j ≠ i ∧ MineAt σ r j p) := by
  obtain ⟨h1, u, h2, h3⟩ := m
  rcases get_set_cases h2 with ⟨w1, w2, _⟩ | ⟨w1, w2⟩
  · exact .inl ⟨w1, w2 ▸ h3, by rw [← w1]; exact h1⟩
  · exact .inr ⟨w1, h1, u, w2, h3⟩
/-- what is one's own is changed -/
theorem EO.mut (e : EO K B G0 G H σ r) {i : Nat} {p : Addr} {t s : Sl} {o : HO} (hs : σ[i]? = some (some (.ref p))) (hr : r[i]? = some t) (ht : t.mine = true) (hk : SlOk K B G (upd H p o) (some (.ref p)) s) (hm : s.mine = true) :
    EO K B G0 G (upd H p o) σ (r.set i s) := by
  have m : MineAt σ r i p := ⟨hs, t, hr, ht⟩
  obtain ⟨hG, hB, _⟩ := e.mine m
  have hi : i < r.length := (List.getElem?_eq_some_iff.mp hr).1
  refine ⟨same_mut e.bh hB, same_mut e.gh hG, e.gg, e.grow, by simp [e.len], fun j u hu => ?_, fun j k q mj mk => ?_⟩
  · rcases get_set_cases hu with ⟨q1, q2, q3⟩ | ⟨q1, q2⟩
    · subst q1 q2
      exact ⟨_, hs, hk⟩
    · obtain ⟨w, h1, h2⟩ := e.slot j u q2
      refine ⟨w, h1, h2.mono (Same.refl G) fun q hq hmu => ?_⟩
      have mj : MineAt σ r j q := ⟨by rw [h1, hq], u, q2, hmu⟩
      have hne : q ≠ p := fun z => q1 (e.dist j i p (z ▸ mj) m)
      exact ⟨upd_ne hne, (e.mine mj).1⟩
  · rcases mineAt_set_r hr mj with ⟨a1, a2, a3⟩ | ⟨a1, a2⟩
    · rcases mineAt_set_r hr mk with ⟨b1, _, _⟩ | ⟨b1, b2⟩
      · rw [a1, b1]
      · have : k = i := e.dist k i q b2 ⟨a3, t, hr, ht⟩
        exact absurd this b1
    · rcases mineAt_set_r hr mk with ⟨b1, b2, b3⟩ | ⟨b1, b2⟩
      · have : j = i := e.dist j i q a2 ⟨b3, t, hr, ht⟩
        exact absurd this a1
      · exact e.dist j k q a2 b2
/-- a slot's list of one's own becomes data where it stands -/
theorem EO.freezeAt (e : EO K B G0 G H σ r) {i : Nat} {l : List PyData} (hr : r[i]? = some (.own l)) : ∃ p vs, σ[i]? = some (some (.ref p)) ∧ H p = some (.lst vs) ∧ G p = none ∧ EO K B G0 (upd G p (.lst vs)) H σ (r.set i (.dat (.list l))) ∧ Dp K (upd G p (.lst vs)) (.ref p) (.list l) := by
  obtain ⟨v, h1, h2⟩ := e.slot i _ hr
  obtain ⟨p, vs, rfl, hG, hB, hH, hd⟩ := h2
  have hi : i < r.length := (List.getElem?_eq_some_iff.mp hr).1
  have m : MineAt σ r i p := ⟨h1, _, hr, rfl⟩
  have sg : Same G (upd G p (.lst vs)) := same_upd hG
  have dd : Dp K (upd G p (.lst vs)) (.ref p) (.list l) := .lst (SqL.of upd_same) (dpAll_same sg _ _ hd)
  refine ⟨p, vs, h1, hH, hG, ⟨e.bh, ?_, fun q o h => sg q o (e.gg q o h), fun q hq => ?_, by simp [e.len], fun j u hu => ?_, fun j k q mj mk => ?_⟩, dd⟩
  · intro b x hb
    by_cases hbp : b = p
    · subst hbp
      rw [upd_same] at hb
      cases hb
      exact hH
    · rw [upd_ne hbp] at hb
      exact e.gh b x hb
  · by_cases hqp : q = p
    · subst hqp
      exact .inr hB
    · rw [upd_ne hqp] at hq
      exact e.grow q hq
  · rcases get_set_cases hu with ⟨q1, q2, q3⟩ | ⟨q1, q2⟩
    · subst q1 q2
      exact ⟨_, h1, _, rfl, dd⟩
    · obtain ⟨w, h3, h4⟩ := e.slot j u q2
      refine ⟨w, h3, h4.mono sg fun q hq hmu => ⟨rfl, ?_⟩⟩
      have mj : MineAt σ r j q := ⟨by rw [h3, hq], u, q2, hmu⟩
      have hne : q ≠ p := fun z => q1 (e.dist j i p (z ▸ mj) m)
      rw [upd_ne hne]
      exact (e.mine mj).1
  · rcases mineAt_set_r hr mj with ⟨_, a2, _⟩ | ⟨a1, a2⟩
    · cases a2
    · rcases mineAt_set_r hr mk with ⟨_, b2, _⟩ | ⟨b1, b2⟩
      · cases b2
      · exact e.dist j k q a2 b2
end
end GM

namespace GM
open PySem PySem.Spec L2

/-! ### judgements -/
abbrev Rl (α β : Type) := PySem.W.Frag → Hp → St → Hp → Hp → En → β → α → Prop
def rD : Rl PyData V := fun K _ _ G _ _ v d => Dp K G v d
def rS : Rl Sl V := fun K B σ G H r v s => VO K B G H σ r v s
def rA : Rl (List PyData) (List V) := fun K _ _ G _ _ vs ds => DpAll K G vs ds
def rI (α : Type) : Rl α α := fun _ _ _ _ _ _ b a => b = a
section
variable {α β γ δ : Type}
/-- what is wanted of an outcome -/
def Post (R : Rl α β) (K : PySem.W.Frag) (W : WX) (C : Er → Addr) (B G0 G : Hp) (σ : St) (Q : β → Hp → Prop) : Out α → Prop
  | .ok a r => ∀ b G' H', EO K B G0 G' H' σ r → Same G G' → R K B σ G' H' r b a → Q b H'
  | .err c r => ∀ G' H', EO K B G0 G' H' σ r → Same G G' → W (.ref (C c)) none σ H'
  | .bot => False
variable {R : Rl α β} {R2 : Rl γ δ} {K : PySem.W.Frag} {W : WX} {C : Er → Addr} {B G0 G G' : Hp} {σ : St}
theorem Post.up {Q : β → Hp → Prop} {o : Out α} (h : Post R K W C B G0 G σ Q o) (s : Same G G') : Post R K W C B G0 G' σ Q o := by
  cases o with
  | ok a r => exact fun b G2 H2 e s2 => h b G2 H2 e (s.trans s2)
  | err c r => exact fun G2 H2 e s2 => h G2 H2 e (s.trans s2)
  | bot => exact h
theorem Post.bind {Q2 : δ → Hp → Prop} {Q : β → Hp → Prop} {o : Out α} {f : α → En → Out γ} (h : Post R2 K W C B G0 G σ Q2 (o.bind f))
    (hk : ∀ a r b G' H', EO K B G0 G' H' σ r → Same G G' → R K B σ G' H' r b a → Post R2 K W C B G0 G' σ Q2 (f a r) → Q b H') : Post R K W C B G0 G σ Q o := by
  cases o with
  | ok a r => exact fun b G' H' e s hr => hk a r b G' H' e s hr (h.up s)
  | err c r => exact h
  | bot => exact h
theorem Post.one {Q : β → Hp → Prop} {a : α} {r : En} {b : β} {H : Hp} (h : Post R K W C B G0 G σ Q (.ok a r)) (e : EO K B G0 G H σ r) (hr : R K B σ G H r b a) : Q b H := h b G H e (Same.refl G) hr
theorem Post.map {ε : Type} {R3 : Rl γ β} {Q : β → Hp → Prop} {o : Out α} {f : α → γ} (h : Post R3 K W C B G0 G σ Q (o.bind fun a r => .ok (f a) r)) (hr : ∀ G' H' r b a, R K B σ G' H' r b a → R3 K B σ G' H' r b (f a)) : Post R K W C B G0 G σ Q o :=
  h.bind fun a r b G' H' e s hb q => q.one e (hr _ _ _ _ _ hb)
end
def J {α β : Type} (X : Cx) (W : WX) (C : Er → Addr) (R : Rl α β) (te : St → Hp → (β → Hp → Prop) → Prop) (t : En → Out α) : Prop :=
  ∀ (B G0 G H : Hp) (σ : St) (r : En) (Q : β → Hp → Prop), EO X.K B G0 G H σ r → Post R X.K W C B G0 G σ Q (t r) → te σ H Q
/-- an expression as data; as what a slot may hold; arguments; a test; a part of a slice -/
structure Ed (X : Cx) (W : WX) (C : Er → Addr) (e : Expr) (t : En → Out PyData) : Prop where
  ex : ∃ te, PE X e te ∧ J X W C rD te t
structure Es (X : Cx) (W : WX) (C : Er → Addr) (e : Expr) (t : En → Out Sl) : Prop where
  ex : ∃ te, PE X e te ∧ J X W C rS te t
structure Ad (X : Cx) (W : WX) (C : Er → Addr) (es : List Expr) (t : En → Out (List PyData)) : Prop where
  ex : ∃ te, PA X es te ∧ J X W C rA te t
structure Td (X : Cx) (W : WX) (C : Er → Addr) (e : Expr) (t : En → Out Bool) : Prop where
  ex : ∃ te, PT X e te ∧ J X W C (rI Bool) te t
structure Wd (X : Cx) (W : WX) (C : Er → Addr) (e : Expr) (t : En → Out Bool) : Prop where
  ex : ∃ te, PW X e te ∧ J X W C (rI Bool) te t
structure Od (X : Cx) (W : WX) (C : Er → Addr) (e : Option Expr) (t : En → Out (Option Int)) : Prop where
  ex : ∃ te, PO X e te ∧ J X W C (rI (Option Int)) te t

/-! ### what they mean -/
@[simp] def slD : Sl → Option PyData
  | .dat d => some d
  | .own l => some (.list l)
  | .dic [] => some (.dict [])
  | _ => none
/-- a value of a slot as data (a list of one's own is handed over) -/
@[simp] def frz (t : En → Out Sl) : En → Out PyData := fun r => (t r).bind fun s r => ofO (slD s) r
@[simp] def dat (t : En → Out PyData) : En → Out Sl := fun r => (t r).bind fun d r => .ok (.dat d) r
@[simp] def dC (d : PyData) : En → Out PyData := fun r => .ok d r
@[simp] def dVar (i : Nat) : En → Out PyData := fun r => match r[i]? with
  | some (.dat d) => .ok d r
  | some (.own l) => .ok (.list l) (r.set i (.dat (.list l)))
  | _ => .bot
@[simp] def dNil : En → Out (List PyData) := fun r => .ok [] r
@[simp] def dCons (t : En → Out PyData) (u : En → Out (List PyData)) : En → Out (List PyData) := fun r => (t r).bind fun d r => (u r).bind fun ds r => .ok (d :: ds) r
@[simp] def dTup (t : En → Out (List PyData)) : En → Out PyData := fun r => (t r).bind fun ds r => .ok (.tuple ds) r
@[simp] def dLst (t : En → Out (List PyData)) : En → Out Sl := fun r => (t r).bind fun ds r => .ok (.own ds) r
@[simp] def op2 {α : Type} (f : PyData → PyData → Option α) (a b : En → Out PyData) : En → Out α := fun r => (a r).bind fun d r => (b r).bind fun e r => ofO (f d e) r
@[simp] def op1 {α : Type} (f : PyData → Option α) (a : En → Out PyData) : En → Out α := fun r => (a r).bind fun d r => ofO (f d) r

section
variable {X : Cx} {W : WX} {C : Er → Addr} {pos : Pos} {e a b : Expr} {es : List Expr}

theorem VO.data {K : PySem.W.Frag} {B G0 G H : Hp} {σ : St} {r : En} {v : V} {s : Sl} {d : PyData} (eo : EO K B G0 G H σ r) (h : VO K B G H σ r v s) (hd : slD s = some d) : ∃ G', EO K B G0 G' H σ r ∧ Same G G' ∧ Dp K G' v d := by
  cases s with
  | emp => cases hd
  | dat d' => cases hd; exact ⟨G, eo, Same.refl G, h⟩
  | own l =>
    cases hd
    obtain ⟨p, vs, rfl, hG, hB, hH, ha, n⟩ := h
    exact ⟨_, eo.freeze hG hB hH n, same_upd hG, .lst (SqL.of upd_same) (dpAll_same (same_upd hG) _ _ ha)⟩
  | dic l =>
    cases l with
    | cons q l => cases hd
    | nil =>
      cases hd
      obtain ⟨p, kvs, rfl, hG, hB, hH, ha, n⟩ := h
      have e0 : kvs = [] := by simpa using ha.1
      subst e0
      exact ⟨_, eo.freeze hG hB hH n, same_upd hG, .dic0 upd_same⟩
  | exc a c => cases hd

theorem Es.frz {t : En → Out Sl} (h : Es X W C e t) : Ed X W C e (frz t) := by
  obtain ⟨te, h1, h2⟩ := h.ex
  refine ⟨te, h1, fun B G0 G H σ r Q eo p => h2 B G0 G H σ r Q eo ?_⟩
  refine Post.bind (R2 := rD) p fun s r' v G' H' e' sg hv q => ?_
  cases hd : slD s with
  | none => rw [hd] at q; exact q.elim
  | some d =>
    rw [hd] at q
    obtain ⟨G2, e2, s2, hd2⟩ := VO.data e' hv hd
    exact q _ _ _ e2 s2 hd2
theorem Ed.dat {t : En → Out PyData} (h : Ed X W C e t) : Es X W C e (dat t) := by
  obtain ⟨te, h1, h2⟩ := h.ex
  refine ⟨te, h1, fun B G0 G H σ r Q eo p => h2 B G0 G H σ r Q eo ?_⟩
  exact Post.bind (R2 := rS) p fun d r' v G' H' e' sg hv q => q v G' H' e' (Same.refl _) hv

/-! ### constants, names -/
theorem d_const {v : V} {d : PyData} (h : PE X e (tC v)) (hd : ∀ K G, Dp K G v d) : Ed X W C e (dC d) :=
  ⟨_, h, fun B G0 G H σ r Q eo p => p v G H eo (Same.refl G) (hd _ _)⟩
theorem d_int {i j pos} : Ed X W C (.Constant (.int i) j pos) (dC (.int i)) := d_const pe_int fun _ _ => .int i
theorem d_str {x j pos} : Ed X W C (.Constant (.str x) j pos) (dC (.str x)) := d_const pe_str fun _ _ => .str x
theorem d_bl {x j pos} : Ed X W C (.Constant (.bool x) j pos) (dC (.bool x)) := d_const pe_bl fun _ _ => .bl x
theorem d_non {j pos} : Ed X W C (.Constant .none j pos) (dC .none) := d_const pe_non fun _ _ => .non
theorem d_var (i : Nat) {x : Str} (hN : X.N[i]? = some x := by rfl) (hv : Vis X.env.scope x := by first | exact Or.inl rfl | exact Or.inr (Or.inl rfl) | exact Or.inr (Or.inr rfl)) (hd : (x == ("__debug__" : Str)) = false := by decide)
    (hcd : (x == ("__classdict__" : Str)) = false := by decide) : Ed X W C (.Name x pos) (dVar i) := by
  refine ⟨_, pe_var hN hv hd hcd, fun B G0 G H σ r Q eo p => ?_⟩
  unfold dVar at p
  cases hr : r[i]? with
  | none => rw [hr] at p; exact p.elim
  | some s =>
    rw [hr] at p
    cases s with
    | emp => exact p.elim
    | dic l => exact p.elim
    | exc a c => exact p.elim
    | dat d =>
      obtain ⟨v, h1, x, rfl, h2⟩ := eo.slot i _ hr
      exact ⟨x, h1, p x G H eo (Same.refl G) h2⟩
    | own l =>
      obtain ⟨q, vs, h1, h2, h3, h4, h5⟩ := eo.freezeAt hr
      exact ⟨_, h1, p _ _ _ h4 (same_upd h3) h5⟩

/-! ### arguments, tuples, lists -/
theorem a_nil : Ad X W C [] dNil := ⟨_, pa_nil, fun B G0 G H σ r Q eo p => p [] G H eo (Same.refl G) .nil⟩
theorem a_cons {t : En → Out PyData} {u : En → Out (List PyData)} (h : Ed X W C e t) (k : Ad X W C es u) (hs : starEach (e :: es) X.env = (false, eval e X.env) :: starEach es X.env := by rfl) : Ad X W C (e :: es) (dCons t u) := by
  obtain ⟨te, h1, h2⟩ := h.ex
  obtain ⟨ue, k1, k2⟩ := k.ex
  refine ⟨_, pa_cons h1 k1 hs, fun B G0 G H σ r Q eo p => h2 B G0 G H σ r _ eo ?_⟩
  refine Post.bind (R2 := rA) p fun d r1 v G1 H1 e1 s1 hv q1 => ?_
  refine k2 B G0 G1 H1 σ r1 _ e1 ?_
  refine Post.bind (R2 := rA) q1 fun ds r2 vs G2 H2 e2 s2 hvs q2 => ?_
  exact q2 _ _ _ e2 (Same.refl _) (.cons (dp_same s2 _ _ hv) hvs)
theorem ad_len : ∀ {es : List Expr} {ta : TA}, PA X es ta → True := fun _ => trivial
/-- a display's length is its text's: told by the outcome -/
def Len (n : Nat) (t : En → Out (List PyData)) : Prop := ∀ r ds r', t r = .ok ds r' → ds.length = n
theorem len_nil : Len 0 dNil := fun r ds r' h => by
  cases h
  rfl
theorem len_cons {n : Nat} {t : En → Out PyData} {u : En → Out (List PyData)} (h : Len n u) : Len (n + 1) (dCons t u) := fun r ds r' q => by
  unfold dCons at q
  cases ht : t r with
  | err c r1 => rw [ht] at q; cases q
  | bot => rw [ht] at q; cases q
  | ok d r1 =>
    rw [ht] at q
    simp only [bind_ok] at q
    cases hu : u r1 with
    | err c r1 => rw [hu] at q; cases q
    | bot => rw [hu] at q; cases q
    | ok es r2 =>
      rw [hu] at q
      cases q
      rw [List.length_cons, h _ _ _ hu]
theorem Post.len {n : Nat} {t : En → Out (List PyData)} {K : PySem.W.Frag} {B G0 G : Hp} {σ : St} {r : En} {Q : List V → Hp → Prop} (l : Len n t)
    (h : Post rA K W C B G0 G σ (fun vs H => vs.length = n → Q vs H) (t r)) : Post rA K W C B G0 G σ Q (t r) := by
  cases ht : t r with
  | ok ds r1 =>
    rw [ht] at h
    exact fun b G' H' e s hr => h b G' H' e s hr (by rw [dpAll_len hr]; exact l _ _ _ ht)
  | err c r1 => rw [ht] at h; exact h
  | bot => rw [ht] at h; exact h
theorem d_tup {k : Nat} {n : Nat} {t : En → Out (List PyData)} (h : Ad X W C es t) (l : Len n t) (hn : n ≤ sizeLine := by decide) : Ed X W C (.Tuple es k pos) (dTup t) := by
  obtain ⟨te, h1, h2⟩ := h.ex
  refine ⟨_, pe_tup h1, fun B G0 G H σ r Q eo p => h2 B G0 G H σ r _ eo (Post.len l ?_)⟩
  refine Post.bind (R2 := rD) p fun ds r1 vs G1 H1 e1 s1 hvs q hl => ⟨by rw [hl]; exact hn, fun p' hp => ?_⟩
  have hG := e1.gh.free hp
  exact q _ _ _ (e1.newDat hp) (same_upd hG) (.tup (SqT.of upd_same) (dpAll_same (same_upd hG) _ _ hvs))
theorem s_lst {n : Nat} {t : En → Out (List PyData)} (h : Ad X W C es t) (l : Len n t) (hn : n ≤ sizeLine := by decide) : Es X W C (.List es pos) (dLst t) := by
  obtain ⟨te, h1, h2⟩ := h.ex
  refine ⟨_, pe_lst h1, fun B G0 G H σ r Q eo p => h2 B G0 G H σ r _ eo (Post.len l ?_)⟩
  refine Post.bind (R2 := rS) p fun ds r1 vs G1 H1 e1 s1 hvs q hl => ⟨by rw [hl]; exact hn, fun p' hp => ?_⟩
  exact q _ _ _ (e1.newOwn hp) (Same.refl _) (e1.vOwn hp hvs)

/-! ### two-place operations -/
def OpS (K : PySem.W.Frag) (rop : R2) (f : PyData → PyData → Option Sl) : Prop := ∀ (B G0 G H : Hp) (σ : St) (r : En) (x y : V) (d e : PyData) (s : Sl) (Q : VK), EO K B G0 G H σ r → Dp K G x d → Dp K G y e → f d e = some s →
  (∀ v G' H', EO K B G0 G' H' σ r → Same G G' → VO K B G' H' σ r v s → Q v H') → rop x y H Q
def OpD (K : PySem.W.Frag) (rop : R2) (f : PyData → PyData → Option PyData) : Prop := ∀ (B G0 G H : Hp) (σ : St) (r : En) (x y : V) (d e z : PyData) (Q : VK), EO K B G0 G H σ r → Dp K G x d → Dp K G y e → f d e = some z →
  (∀ v G' H', EO K B G0 G' H' σ r → Same G G' → Dp K G' v z → Q v H') → rop x y H Q
def OpB (K : PySem.W.Frag) (rop : R2) (f : PyData → PyData → Option Bool) : Prop := ∀ (B G0 G H : Hp) (σ : St) (r : En) (x y : V) (d e : PyData) (z : Bool) (Q : VK), EO K B G0 G H σ r → Dp K G x d → Dp K G y e → f d e = some z → Q (.bl z) H → rop x y H Q
theorem j_op2 {α β : Type} {R : Rl α β} {rop : V → V → Hp → (β → Hp → Prop) → Prop} {f : PyData → PyData → Option α} {ta tb : En → Out PyData} {ea eb : TE} (ha : J X W C rD ea ta) (hb : J X W C rD eb tb)
    (ho : ∀ (B G0 G H : Hp) (σ : St) (r : En) (x y : V) (d e : PyData) (s : α) (Q : β → Hp → Prop), EO X.K B G0 G H σ r → Dp X.K G x d → Dp X.K G y e → f d e = some s → (∀ v G' H', EO X.K B G0 G' H' σ r → Same G G' → R X.K B σ G' H' r v s → Q v H') → rop x y H Q) :
    J X W C R (fun σ H Q => ea σ H fun x H1 => eb σ H1 fun y H2 => rop x y H2 Q) (op2 f ta tb) := by
  intro B G0 G H σ r Q eo p
  refine ha B G0 G H σ r _ eo ?_
  refine Post.bind (R2 := R) p fun d r1 v G1 H1 e1 s1 hv q1 => hb B G0 G1 H1 σ r1 _ e1 ?_
  refine Post.bind (R2 := R) q1 fun d2 r2 v2 G2 H2 e2 s2 hv2 q2 => ?_
  cases hf : f d d2 with
  | none => rw [hf] at q2; exact q2.elim
  | some z =>
    rw [hf] at q2
    exact ho B G0 G2 H2 σ r2 v v2 d d2 z Q e2 (dp_same s2 _ _ hv) hv2 hf fun v3 G3 H3 e3 s3 h3 => q2 v3 G3 H3 e3 s3 h3
theorem s_bin {op : Operator} {rop : R2} {f : PyData → PyData → Option Sl} {ta tb : En → Out PyData} (hr : OpR X (binaryOp op) rop) (ho : OpS X.K rop f) (ha : Ed X W C a ta) (hb : Ed X W C b tb) : Es X W C (.BinOp a op b pos) (op2 f ta tb) := by
  obtain ⟨ea, a1, a2⟩ := ha.ex
  obtain ⟨eb, b1, b2⟩ := hb.ex
  exact ⟨_, pe_op hr a1 b1, j_op2 a2 b2 ho⟩
theorem d_bin {op : Operator} {rop : R2} {f : PyData → PyData → Option PyData} {ta tb : En → Out PyData} (hr : OpR X (binaryOp op) rop) (ho : OpD X.K rop f) (ha : Ed X W C a ta) (hb : Ed X W C b tb) : Ed X W C (.BinOp a op b pos) (op2 f ta tb) := by
  obtain ⟨ea, a1, a2⟩ := ha.ex
  obtain ⟨eb, b1, b2⟩ := hb.ex
  exact ⟨_, pe_op hr a1 b1, j_op2 a2 b2 ho⟩
@[simp] def boolD (f : PyData → PyData → Option Bool) : PyData → PyData → Option PyData := fun d e => (f d e).map PyData.bool
theorem d_cmp {op : CmpOp} {rop : R2} {f : PyData → PyData → Option Bool} {ta tb : En → Out PyData} (hr : OpR X (compareOp op) rop) (ho : OpB X.K rop f) (ha : Ed X W C a ta) (hb : Ed X W C b tb) (hm : behindInMarks op b = false) : Ed X W C (.Compare a [op] [b] pos) (op2 (boolD f) ta tb) := by
  obtain ⟨ea, a1, a2⟩ := ha.ex
  obtain ⟨eb, b1, b2⟩ := hb.ex
  refine ⟨_, pe_cmpR hr a1 b1 hm, j_op2 a2 b2 fun B G0 G H σ r x y d e z Q eo hx hy hf q => ?_⟩
  unfold boolD at hf
  cases hc : f d e with
  | none => rw [hc] at hf; cases hf
  | some c =>
    rw [hc] at hf
    cases hf
    exact ho B G0 G H σ r x y d e c Q eo hx hy hc (q _ G H eo (Same.refl G) (.bl c))
theorem t_cmp {op : CmpOp} {rop : R2} {f : PyData → PyData → Option Bool} {ta tb : En → Out PyData} (hr : OpR X (compareOp op) rop) (ho : OpB X.K rop f) (ha : Ed X W C a ta) (hb : Ed X W C b tb) (hm : behindInMarks op b = false) : Td X W C (.Compare a [op] [b] pos) (op2 f ta tb) := by
  obtain ⟨ea, a1, a2⟩ := ha.ex
  obtain ⟨eb, b1, b2⟩ := hb.ex
  refine ⟨_, pt_cmpR hr a1 b1 hm, j_op2 (R := rI Bool) (rop := fun x y H Q => rop x y H fun z H' => ∃ k, z = .bl k ∧ Q k H') a2 b2 fun B G0 G H σ r x y d e z Q eo hx hy hf q => ?_⟩
  exact ho B G0 G H σ r x y d e z _ eo hx hy hf ⟨z, rfl, q z G H eo (Same.refl G) rfl⟩

/-! the operations by data -/
def fAdd : PyData → PyData → Option Sl
  | .int i, .int j => some (.dat (.int (i + j)))
  | .str x, .str y => if x.length + y.length ≤ sizeLine then some (.dat (.str (x ++ y))) else none
  | .list xs, .list ys => if xs.length + ys.length ≤ sizeLine then some (.own (xs ++ ys)) else none
  | .tuple (x :: xs), .tuple ys => if xs.length + 1 + ys.length ≤ sizeLine then some (.dat (.tuple (x :: xs ++ ys))) else none
  | _, _ => none
/-- list + list, lists that are read -/
def rCatL (K : PySem.W.Frag) : R2 := fun x y H Q => ∃ l b xs zs, x = .ref l ∧ y = .ref b ∧ SqL K H l xs ∧ SqL K H b zs ∧ xs.length + zs.length ≤ sizeLine ∧ ∀ p, H p = none → Q (.ref p) (upd H p (.lst (xs ++ zs)))
theorem op_catL : OpR X (binaryOp .Add) (rCatL X.K) := by
  intro pins s σ H x y v u Q I rx ry h
  obtain ⟨l, b, xs, zs, rfl, rfl, hH, hB, hz, q⟩ := h
  cases rx
  cases ry
  obtain ⟨its, r, pl, z⟩ := I.list hH
  obtain ⟨its2, r2, pl2, z2⟩ := I.list hB
  obtain ⟨⟨cls, dd, data, sl⟩, n, ho, hc, hdd, hd⟩ := pl
  obtain ⟨⟨cls2, dd2, data2, sl2⟩, n2, ho2, hc2, hdd2, hd2⟩ := pl2
  simp only at hc hd hc2 hd2
  subst hc hd hc2 hd2
  have e : its.toArray ++ its2.toArray = (its ++ its2).toArray := by simp
  refine PySem.concat_meets ⟨_, ho, rfl⟩ ⟨_, ho2, rfl⟩ PySem.noFill_list_add PySem.seq_list_add PySem.F.slot_list_add PySem.F.entry_list_add (PySem.F.args_list_add_2 _ _) (PyProof.Rows.list_addW l b its.toArray its2.toArray n n2 dd dd2 sl sl2 (by rw [List.size_toArray, List.size_toArray, ← r.length, ← r2.length]; exact hz)) ⟨ho, ho2, ?_⟩
  rw [e]
  exact ⟨.ref _, _, I.lnew (t' := s.toks) (r.append r2) (by rw [List.length_append]; omega), rfl, q _ I.fresh⟩
def rAddStr : R2 := fun x y H Q => ∃ i j, x = .str i ∧ y = .str j ∧ i.length + j.length ≤ sizeLine ∧ Q (.str (i ++ j)) H
def rAddAll (K : PySem.W.Frag) : R2 := fun x y H Q => L2.rI0 (fun i j => .int (i + j)) x y H Q ∨ (rAddStr x y H Q ∨ (rCatL K x y H Q ∨ rCatT K x y H Q))
theorem op_addAll : OpR X (binaryOp .Add) (rAddAll X.K) := op_add.or (op_add_str.or (op_catL.or op_catT))
theorem ops_add {K : PySem.W.Frag} : OpS K (rAddAll K) fAdd := by
  intro B G0 G H σ r x y d e s Q eo hx hy hf q
  cases hx with
  | int i =>
    cases hy with
    | int j =>
      cases hf
      exact .inl ⟨i, j, rfl, rfl, q _ G H eo (Same.refl G) (Dp.int _)⟩
    | _ => cases hf
  | str i =>
    cases hy with
    | str j =>
      simp only [fAdd] at hf
      split at hf
      · cases hf
        exact .inr (.inl ⟨i, j, rfl, rfl, by assumption, q _ G H eo (Same.refl G) (Dp.str _)⟩)
      · cases hf
    | _ => cases hf
  | lst h1 h2 =>
    cases hy with
    | lst k1 k2 =>
      simp only [fAdd] at hf
      split at hf
      · rename_i hz
        cases hf
        refine .inr (.inr (.inl ⟨_, _, _, _, rfl, rfl, eo.gh.seq h1, eo.gh.seq k1, by rw [dpAll_len h2, dpAll_len k2]; exact hz, fun p hp => ?_⟩))
        exact q _ G _ (eo.newOwn hp) (Same.refl G) (eo.vOwn hp (dpAll_append h2 k2))
      · cases hf
    | _ => cases hf
  | @tup a xs ds h1 h2 =>
    cases ds with
    | nil => cases hy <;> cases hf
    | cons d0 ds =>
      cases hy with
      | @tup a' ys es k1 k2 =>
        simp only [fAdd] at hf
        split at hf
        · rename_i hz
          cases hf
          have l1 := dpAll_len h2
          have l2 := dpAll_len k2
          have hne : xs ≠ [] := fun z => by
            rw [z] at l1
            cases l1
          refine .inr (.inr (.inr ⟨_, _, _, _, rfl, rfl, same_t eo.gh h1, same_t eo.gh k1, hne, by rw [l1, l2, List.length_cons]; exact hz, fun z => ?_, fun z p hp => ?_⟩))
          · subst z
            cases k2
            rw [List.append_nil] at q
            exact q _ G H eo (Same.refl G) (Dp.tup h1 h2)
          · have hG := eo.gh.free hp
            exact q _ _ _ (eo.newDat hp) (same_upd hG) (Dp.tup (SqT.of upd_same) (dpAll_same (same_upd hG) _ _ (dpAll_append h2 k2)))
        · cases hf
      | _ => cases hf
  | _ => cases hy <;> cases hf
theorem s_add {ta tb : En → Out PyData} (ha : Ed X W C a ta) (hb : Ed X W C b tb) : Es X W C (.BinOp a .Add b pos) (op2 fAdd ta tb) := s_bin op_addAll ops_add ha hb

def fSub : PyData → PyData → Option PyData
  | .int i, .int j => some (.int (i - j))
  | _, _ => none
def fDiv : PyData → PyData → Option PyData
  | .int i, .int j => if 0 < j ∧ j < 1073741824 then some (.int (i / j)) else none
  | _, _ => none
def fMod : PyData → PyData → Option PyData
  | .int i, .int j => if 0 < j then some (.int (i % j)) else none
  | _, _ => none
def fPow : PyData → PyData → Option PyData
  | .int i, .int j => if 0 ≤ j ∧ j ≤ 1000000 ∧ i.natAbs < 2 ^ 64 then some (.int (i ^ j.toNat)) else none
  | _, _ => none
def fMul : PyData → PyData → Option PyData
  | .int i, .int j => if -(2 ^ 64) < j ∧ j < 2 ^ 64 then some (.int (i * j)) else none
  | .str x, .int n => if 0 ≤ n ∧ n ≤ 1000 ∧ x.length ≤ 1000 then some (.str (Txt.mul x n)) else none
  | _, _ => none
theorem opd_I {K : PySem.W.Frag} {P : Int → Int → Prop} [∀ i j, Decidable (P i j)] {g : Int → Int → Int} {f : PyData → PyData → Option PyData}
    (hf : ∀ d e z, f d e = some z → ∃ i j, d = .int i ∧ e = .int j ∧ P i j ∧ z = .int (g i j)) : OpD K (L2.rI P fun i j => .int (g i j)) f := by
  intro B G0 G H σ r x y d e z Q eo hx hy h q
  obtain ⟨i, j, rfl, rfl, hp, rfl⟩ := hf _ _ _ h
  cases hx
  cases hy
  exact ⟨i, j, rfl, rfl, hp, q _ G H eo (Same.refl G) (.int _)⟩
theorem opd_sub {K : PySem.W.Frag} : OpD K (L2.rI0 fun i j => .int (i - j)) fSub := by
  intro B G0 G H σ r x y d e z Q eo hx hy h q
  cases hx with
  | int i =>
    cases hy with
    | int j =>
      cases h
      exact ⟨i, j, rfl, rfl, q _ G H eo (Same.refl G) (.int _)⟩
    | _ => cases h
  | _ => cases h
theorem opd_div {K : PySem.W.Frag} : OpD K (L2.rI CDiv fun i j => .int (i / j)) fDiv := by
  intro B G0 G H σ r x y d e z Q eo hx hy h q
  cases hx with
  | int i =>
    cases hy with
    | int j =>
      simp only [fDiv] at h
      split at h
      · cases h
        exact ⟨i, j, rfl, rfl, by assumption, q _ G H eo (Same.refl G) (.int _)⟩
      · cases h
    | _ => cases h
  | _ => cases h
theorem opd_mod {K : PySem.W.Frag} : OpD K (L2.rI (fun _ j => 0 < j) fun i j => .int (i % j)) fMod := by
  intro B G0 G H σ r x y d e z Q eo hx hy h q
  cases hx with
  | int i =>
    cases hy with
    | int j =>
      simp only [fMod] at h
      split at h
      · cases h
        exact ⟨i, j, rfl, rfl, by assumption, q _ G H eo (Same.refl G) (.int _)⟩
      · cases h
    | _ => cases h
  | _ => cases h
theorem opd_pow {K : PySem.W.Frag} : OpD K (L2.rI CPow fun i j => .int (i ^ j.toNat)) fPow := by
  intro B G0 G H σ r x y d e z Q eo hx hy h q
  cases hx with
  | int i =>
    cases hy with
    | int j =>
      simp only [fPow] at h
      split at h
      · cases h
        exact ⟨i, j, rfl, rfl, by assumption, q _ G H eo (Same.refl G) (.int _)⟩
      · cases h
    | _ => cases h
  | _ => cases h
def rMulStr : R2 := fun x y H Q => ∃ z n, x = .str z ∧ y = .int n ∧ 0 ≤ n ∧ n ≤ 1000 ∧ z.length ≤ 1000 ∧ Q (.str (Txt.mul z n)) H
theorem mulOk_small {x : Str} {n : Int} (h0 : 0 ≤ n) (h1 : n ≤ 1000) (h2 : x.length ≤ 1000) : MulOk x n := by
  refine ⟨?_, fun a _ => ?_, fun a _ => ?_⟩
  · rw [decide_eq_false (by omega), decide_eq_false (by omega)]
    rfl
  · have e : (1000 : Int) ≤ (2 ^ 63 - 1) / n := by
      refine (Int.le_ediv_iff_mul_le (by omega)).mpr ?_
      have : (1000 : Int) * n ≤ 1000 * 1000 := by omega
      omega
    omega
  · have : x.length * n.toNat ≤ 1000 * 1000 := Nat.mul_le_mul h2 (by omega)
    unfold Builtin.Str.tooLong
    first
      | exact decide_eq_false (by have := sizeLine_eq; omega)
      | (simp; have := sizeLine_eq; omega)
theorem op_mulStr : OpR X (binaryOp .Mult) rMulStr := by
  intro pins s σ H x y v u Q I rx ry h
  obtain ⟨z, n, rfl, rfl, h0, h1, h2, q⟩ := h
  obtain ⟨t, rfl⟩ := rx
  obtain ⟨t', rfl⟩ := ry
  exact SB.mul (mulOk_small h0 h1 h2) fun t' k => ⟨.str _, H, I.tok _, ⟨_, rfl⟩, q⟩
theorem op_mulAll : OpR X (binaryOp .Mult) (fun x y H Q => L2.rI CMul (fun i j => .int (i * j)) x y H Q ∨ rMulStr x y H Q) := op_mul.or op_mulStr
theorem opd_mul {K : PySem.W.Frag} : OpD K (fun x y H Q => L2.rI CMul (fun i j => .int (i * j)) x y H Q ∨ rMulStr x y H Q) fMul := by
  intro B G0 G H σ r x y d e z Q eo hx hy h q
  cases hx with
  | int i =>
    cases hy with
    | int j =>
      simp only [fMul] at h
      split at h
      · cases h
        exact .inl ⟨i, j, rfl, rfl, .inr (by assumption), q _ G H eo (Same.refl G) (.int _)⟩
      · cases h
    | _ => cases h
  | str i =>
    cases hy with
    | int j =>
      simp only [fMul] at h
      split at h
      · rename_i hc
        cases h
        exact .inr ⟨i, j, rfl, rfl, hc.1, hc.2.1, hc.2.2, q _ G H eo (Same.refl G) (.str _)⟩
      · cases h
    | _ => cases h
  | _ => cases h
theorem d_sub {ta tb : En → Out PyData} (ha : Ed X W C a ta) (hb : Ed X W C b tb) : Ed X W C (.BinOp a .Sub b pos) (op2 fSub ta tb) := d_bin op_sub opd_sub ha hb
theorem d_mul {ta tb : En → Out PyData} (ha : Ed X W C a ta) (hb : Ed X W C b tb) : Ed X W C (.BinOp a .Mult b pos) (op2 fMul ta tb) := d_bin op_mulAll opd_mul ha hb
theorem d_fdiv {ta tb : En → Out PyData} (ha : Ed X W C a ta) (hb : Ed X W C b tb) : Ed X W C (.BinOp a .FloorDiv b pos) (op2 fDiv ta tb) := d_bin op_fdiv opd_div ha hb
theorem d_mod {ta tb : En → Out PyData} (ha : Ed X W C a ta) (hb : Ed X W C b tb) : Ed X W C (.BinOp a .Mod b pos) (op2 fMod ta tb) := d_bin op_mod opd_mod ha hb
theorem d_pow {ta tb : En → Out PyData} (ha : Ed X W C a ta) (hb : Ed X W C b tb) : Ed X W C (.BinOp a .Pow b pos) (op2 fPow ta tb) := d_bin op_pow opd_pow ha hb

/-! comparisons -/
def fLt : PyData → PyData → Option Bool
  | .int i, .int j => some (decide (i < j))
  | _, _ => none
def fLe : PyData → PyData → Option Bool
  | .int i, .int j => some (decide (i ≤ j))
  | _, _ => none
def fGt : PyData → PyData → Option Bool
  | .int i, .int j => some (decide (j < i))
  | _, _ => none
def fGe : PyData → PyData → Option Bool
  | .int i, .int j => some (decide (j ≤ i))
  | _, _ => none
@[simp] def isNone : PyData → Bool
  | .none => true
  | _ => false
def fIs : PyData → PyData → Option Bool
  | d, .none => some (isNone d)
  | _, _ => none
def fIsNot : PyData → PyData → Option Bool
  | d, .none => some (!isNone d)
  | _, _ => none
/-- == of data: texts and numbers by themselves, else data of a depth of at most 64 -/
def fEq : PyData → PyData → Option Bool
  | .int i, .int j => some (decide (i = j))
  | .str i, .str j => some (decide (i = j))
  | .bool i, .bool j => some (decide (i = j))
  | d, e => if SeqAt.shaped d = true ∧ SeqAt.shaped e = true then some (PyData.eqv d e) else none
def fNe (d e : PyData) : Option Bool := (fEq d e).map not
theorem opb_I {K : PySem.W.Frag} {g : Int → Int → Bool} {f : PyData → PyData → Option Bool} (hf : ∀ d e z, f d e = some z → ∃ i j, d = .int i ∧ e = .int j ∧ z = g i j) : OpB K (L2.rI0 fun i j => .bl (g i j)) f := by
  intro B G0 G H σ r x y d e z Q eo hx hy h q
  obtain ⟨i, j, rfl, rfl, rfl⟩ := hf _ _ _ h
  cases hx
  cases hy
  exact ⟨i, j, rfl, rfl, q⟩
theorem opb_lt {K : PySem.W.Frag} : OpB K (L2.rI0 fun i j => .bl (decide (i < j))) fLt := opb_I fun d e z h => by
  cases d <;> cases e <;> first | cases h; exact ⟨_, _, rfl, rfl, rfl⟩ | cases h
theorem opb_le {K : PySem.W.Frag} : OpB K (L2.rI0 fun i j => .bl (decide (i ≤ j))) fLe := opb_I fun d e z h => by
  cases d <;> cases e <;> first | cases h; exact ⟨_, _, rfl, rfl, rfl⟩ | cases h
theorem opb_gt {K : PySem.W.Frag} : OpB K (L2.rI0 fun i j => .bl (decide (j < i))) fGt := opb_I fun d e z h => by
  cases d <;> cases e <;> first | cases h; exact ⟨_, _, rfl, rfl, rfl⟩ | cases h
theorem opb_ge {K : PySem.W.Frag} : OpB K (L2.rI0 fun i j => .bl (decide (j ≤ i))) fGe := opb_I fun d e z h => by
  cases d <;> cases e <;> first | cases h; exact ⟨_, _, rfl, rfl, rfl⟩ | cases h
theorem dp_none {K : PySem.W.Frag} {G : Hp} {v : V} {d : PyData} (h : Dp K G v d) : decide (v = .non) = isNone d := by
  cases h <;> rfl
theorem opb_is {K : PySem.W.Frag} : OpB K (fun x y H Q => y = .non ∧ Q (.bl (decide (x = .non))) H) fIs := by
  intro B G0 G H σ r x y d e z Q eo hx hy h q
  cases hy with
  | non =>
    cases h
    exact ⟨rfl, by rw [dp_none hx]; exact q⟩
  | _ => cases h
theorem opb_isNot {K : PySem.W.Frag} : OpB K (fun x y H Q => y = .non ∧ Q (.bl (!decide (x = .non))) H) fIsNot := by
  intro B G0 G H σ r x y d e z Q eo hx hy h q
  cases hy with
  | non =>
    cases h
    exact ⟨rfl, by rw [dp_none hx]; exact q⟩
  | _ => cases h
theorem dec_int2 {i j : Int} : decide (V.int i = V.int j) = decide (i = j) := by simp
theorem dec_str2 {i j : Str} : decide (V.str i = V.str j) = decide (i = j) := by simp
theorem dec_bl2 {i j : Bool} : decide (V.bl i = V.bl j) = decide (i = j) := by simp
def rEqAll (K : PySem.W.Frag) : R2 := fun x y H Q => rEq x y H Q ∨ rEqD K x y H Q
def rNeAll (K : PySem.W.Frag) : R2 := fun x y H Q => rNe x y H Q ∨ rNeD K x y H Q
theorem op_eqAll (hu : X.A.units + 64 < cLine) : OpR X (compareOp .Eq) (rEqAll X.K) := op_eq.or (op_eqD hu)
theorem op_neAll (hu : X.A.units + 64 < cLine) : OpR X (compareOp .NotEq) (rNeAll X.K) := op_ne.or (op_neD hu)
theorem fEq_cases {d e : PyData} {z : Bool} (h : fEq d e = some z) : (∃ i j, d = .int i ∧ e = .int j ∧ z = decide (i = j)) ∨ (∃ i j, d = .str i ∧ e = .str j ∧ z = decide (i = j)) ∨ (∃ i j, d = .bool i ∧ e = .bool j ∧ z = decide (i = j)) ∨
    (SeqAt.shaped d = true ∧ SeqAt.shaped e = true ∧ z = PyData.eqv d e) := by
  unfold fEq at h
  split at h
  · cases h; exact .inl ⟨_, _, rfl, rfl, rfl⟩
  · cases h; exact .inr (.inl ⟨_, _, rfl, rfl, rfl⟩)
  · cases h; exact .inr (.inr (.inl ⟨_, _, rfl, rfl, rfl⟩))
  · split at h
    · rename_i hc
      cases h
      exact .inr (.inr (.inr ⟨hc.1, hc.2, rfl⟩))
    · cases h
theorem opb_eq {K : PySem.W.Frag} : OpB K (rEqAll K) fEq := by
  intro B G0 G H σ r x y d e z Q eo hx hy h q
  rcases fEq_cases h with ⟨i, j, rfl, rfl, rfl⟩ | ⟨i, j, rfl, rfl, rfl⟩ | ⟨i, j, rfl, rfl, rfl⟩ | ⟨h1, h2, rfl⟩
  · cases hx; cases hy
    exact .inl ⟨rfl, by rw [dec_int2]; exact q⟩
  · cases hx; cases hy
    exact .inl ⟨rfl, by rw [dec_str2]; exact q⟩
  · cases hx; cases hy
    exact .inl ⟨rfl, by rw [dec_bl2]; exact q⟩
  · exact .inr ⟨d, e, dp_lib _ _ (SeqAt.canLay_of_shaped h1) (dp_same eo.gh _ _ hx), dp_lib _ _ (SeqAt.canLay_of_shaped h2) (dp_same eo.gh _ _ hy), h1, h2, q⟩
theorem opb_ne {K : PySem.W.Frag} : OpB K (rNeAll K) fNe := by
  intro B G0 G H σ r x y d e z Q eo hx hy h q
  unfold fNe at h
  cases hz : fEq d e with
  | none => rw [hz] at h; cases h
  | some z' =>
    rw [hz] at h
    cases h
    rcases fEq_cases hz with ⟨i, j, rfl, rfl, rfl⟩ | ⟨i, j, rfl, rfl, rfl⟩ | ⟨i, j, rfl, rfl, rfl⟩ | ⟨h1, h2, rfl⟩
    · cases hx; cases hy
      exact .inl ⟨rfl, by rw [dec_int2]; exact q⟩
    · cases hx; cases hy
      exact .inl ⟨rfl, by rw [dec_str2]; exact q⟩
    · cases hx; cases hy
      exact .inl ⟨rfl, by rw [dec_bl2]; exact q⟩
    · exact .inr ⟨d, e, dp_lib _ _ (SeqAt.canLay_of_shaped h1) (dp_same eo.gh _ _ hx), dp_lib _ _ (SeqAt.canLay_of_shaped h2) (dp_same eo.gh _ _ hy), h1, h2, q⟩
end

/-! the operations' equations -/
section
variable (i j : Int) (x y : Str) (b c : Bool) (d : PyData) (xs ys : List PyData)
@[simp] theorem fAdd_i : fAdd (.int i) (.int j) = some (.dat (.int (i + j))) := rfl
@[simp] theorem fAdd_s : fAdd (.str x) (.str y) = if x.length + y.length ≤ sizeLine then some (.dat (.str (x ++ y))) else none := rfl
@[simp] theorem fAdd_l : fAdd (.list xs) (.list ys) = if xs.length + ys.length ≤ sizeLine then some (.own (xs ++ ys)) else none := rfl
@[simp] theorem fAdd_t : fAdd (.tuple (d :: xs)) (.tuple ys) = if xs.length + 1 + ys.length ≤ sizeLine then some (.dat (.tuple (d :: xs ++ ys))) else none := rfl
@[simp] theorem fSub_i : fSub (.int i) (.int j) = some (.int (i - j)) := rfl
@[simp] theorem fDiv_i : fDiv (.int i) (.int j) = if 0 < j ∧ j < 1073741824 then some (.int (i / j)) else none := rfl
@[simp] theorem fMod_i : fMod (.int i) (.int j) = if 0 < j then some (.int (i % j)) else none := rfl
@[simp] theorem fPow_i : fPow (.int i) (.int j) = if 0 ≤ j ∧ j ≤ 1000000 ∧ i.natAbs < 2 ^ 64 then some (.int (i ^ j.toNat)) else none := rfl
@[simp] theorem fMul_i : fMul (.int i) (.int j) = if -(2 ^ 64) < j ∧ j < 2 ^ 64 then some (.int (i * j)) else none := rfl
@[simp] theorem fMul_s : fMul (.str x) (.int i) = if 0 ≤ i ∧ i ≤ 1000 ∧ x.length ≤ 1000 then some (.str (Txt.mul x i)) else none := rfl
@[simp] theorem fLt_i : fLt (.int i) (.int j) = some (decide (i < j)) := rfl
@[simp] theorem fLe_i : fLe (.int i) (.int j) = some (decide (i ≤ j)) := rfl
@[simp] theorem fGt_i : fGt (.int i) (.int j) = some (decide (j < i)) := rfl
@[simp] theorem fGe_i : fGe (.int i) (.int j) = some (decide (j ≤ i)) := rfl
@[simp] theorem fIs_n : fIs d .none = some (isNone d) := by cases d <;> rfl
@[simp] theorem fIsNot_n : fIsNot d .none = some (!isNone d) := by cases d <;> rfl
@[simp] theorem fEq_i : fEq (.int i) (.int j) = some (decide (i = j)) := rfl
@[simp] theorem fEq_s : fEq (.str x) (.str y) = some (decide (x = y)) := rfl
@[simp] theorem fEq_b : fEq (.bool b) (.bool c) = some (decide (b = c)) := rfl
@[simp] theorem fNe_i : fNe (.int i) (.int j) = some (!decide (i = j)) := rfl
@[simp] theorem fNe_s : fNe (.str x) (.str y) = some (!decide (x = y)) := rfl
@[simp] theorem fNe_b : fNe (.bool b) (.bool c) = some (!decide (b = c)) := rfl
theorem fEq_t (h : SeqAt.shaped (.tuple xs) = true) (h' : SeqAt.shaped d = true) : fEq (.tuple xs) d = some (PyData.eqv (.tuple xs) d) := by
  cases d <;> exact if_pos ⟨h, h'⟩
theorem fEq_l (h : SeqAt.shaped (.list xs) = true) (h' : SeqAt.shaped d = true) : fEq (.list xs) d = some (PyData.eqv (.list xs) d) := by
  cases d <;> exact if_pos ⟨h, h'⟩
end
end GM

namespace GM
open PySem PySem.Spec L2
section
variable {X : Cx} {W : WX} {C : Er → Addr} {pos : Pos} {e a b : Expr} {es : List Expr}
theorem d_eq {ta tb : En → Out PyData} (hu : X.A.units + 64 < cLine) (ha : Ed X W C a ta) (hb : Ed X W C b tb) : Ed X W C (.Compare a [.Eq] [b] pos) (op2 (boolD fEq) ta tb) := d_cmp (op_eqAll hu) opb_eq ha hb (nomark _)
theorem d_ne {ta tb : En → Out PyData} (hu : X.A.units + 64 < cLine) (ha : Ed X W C a ta) (hb : Ed X W C b tb) : Ed X W C (.Compare a [.NotEq] [b] pos) (op2 (boolD fNe) ta tb) := d_cmp (op_neAll hu) opb_ne ha hb (nomark _)
theorem d_lt {ta tb : En → Out PyData} (ha : Ed X W C a ta) (hb : Ed X W C b tb) : Ed X W C (.Compare a [.Lt] [b] pos) (op2 (boolD fLt) ta tb) := d_cmp op_lt opb_lt ha hb (nomark _)
theorem d_le {ta tb : En → Out PyData} (ha : Ed X W C a ta) (hb : Ed X W C b tb) : Ed X W C (.Compare a [.LtE] [b] pos) (op2 (boolD fLe) ta tb) := d_cmp op_le opb_le ha hb (nomark _)
theorem d_gt {ta tb : En → Out PyData} (ha : Ed X W C a ta) (hb : Ed X W C b tb) : Ed X W C (.Compare a [.Gt] [b] pos) (op2 (boolD fGt) ta tb) := d_cmp op_gt opb_gt ha hb (nomark _)
theorem d_ge {ta tb : En → Out PyData} (ha : Ed X W C a ta) (hb : Ed X W C b tb) : Ed X W C (.Compare a [.GtE] [b] pos) (op2 (boolD fGe) ta tb) := d_cmp op_ge opb_ge ha hb (nomark _)
theorem d_is {ta tb : En → Out PyData} (ha : Ed X W C a ta) (hb : Ed X W C b tb) : Ed X W C (.Compare a [.Is] [b] pos) (op2 (boolD fIs) ta tb) := d_cmp op_isN opb_is ha hb (nomark _)
theorem d_isNot {ta tb : En → Out PyData} (ha : Ed X W C a ta) (hb : Ed X W C b tb) : Ed X W C (.Compare a [.IsNot] [b] pos) (op2 (boolD fIsNot) ta tb) := d_cmp op_notN opb_isNot ha hb (nomark _)
theorem t_eq {ta tb : En → Out PyData} (hu : X.A.units + 64 < cLine) (ha : Ed X W C a ta) (hb : Ed X W C b tb) : Td X W C (.Compare a [.Eq] [b] pos) (op2 fEq ta tb) := t_cmp (op_eqAll hu) opb_eq ha hb (nomark _)
theorem t_ne {ta tb : En → Out PyData} (hu : X.A.units + 64 < cLine) (ha : Ed X W C a ta) (hb : Ed X W C b tb) : Td X W C (.Compare a [.NotEq] [b] pos) (op2 fNe ta tb) := t_cmp (op_neAll hu) opb_ne ha hb (nomark _)
theorem t_lt {ta tb : En → Out PyData} (ha : Ed X W C a ta) (hb : Ed X W C b tb) : Td X W C (.Compare a [.Lt] [b] pos) (op2 fLt ta tb) := t_cmp op_lt opb_lt ha hb (nomark _)
theorem t_le {ta tb : En → Out PyData} (ha : Ed X W C a ta) (hb : Ed X W C b tb) : Td X W C (.Compare a [.LtE] [b] pos) (op2 fLe ta tb) := t_cmp op_le opb_le ha hb (nomark _)
theorem t_gt {ta tb : En → Out PyData} (ha : Ed X W C a ta) (hb : Ed X W C b tb) : Td X W C (.Compare a [.Gt] [b] pos) (op2 fGt ta tb) := t_cmp op_gt opb_gt ha hb (nomark _)
theorem t_ge {ta tb : En → Out PyData} (ha : Ed X W C a ta) (hb : Ed X W C b tb) : Td X W C (.Compare a [.GtE] [b] pos) (op2 fGe ta tb) := t_cmp op_ge opb_ge ha hb (nomark _)
theorem t_is {ta tb : En → Out PyData} (ha : Ed X W C a ta) (hb : Ed X W C b tb) : Td X W C (.Compare a [.Is] [b] pos) (op2 fIs ta tb) := t_cmp op_isN opb_is ha hb (nomark _)
theorem t_isNot {ta tb : En → Out PyData} (ha : Ed X W C a ta) (hb : Ed X W C b tb) : Td X W C (.Compare a [.IsNot] [b] pos) (op2 fIsNot ta tb) := t_cmp op_notN opb_isNot ha hb (nomark _)

/-! ### one-place operations -/
def fNeg : PyData → Option PyData
  | .int i => some (.int (-i))
  | _ => none
theorem j_op1 {α β : Type} {R : Rl α β} {rop : V → Hp → (β → Hp → Prop) → Prop} {f : PyData → Option α} {ta : En → Out PyData} {ea : TE} (ha : J X W C rD ea ta)
    (ho : ∀ (B G0 G H : Hp) (σ : St) (r : En) (x : V) (d : PyData) (s : α) (Q : β → Hp → Prop), EO X.K B G0 G H σ r → Dp X.K G x d → f d = some s → (∀ v G' H', EO X.K B G0 G' H' σ r → Same G G' → R X.K B σ G' H' r v s → Q v H') → rop x H Q) :
    J X W C R (fun σ H Q => ea σ H fun x H1 => rop x H1 Q) (op1 f ta) := by
  intro B G0 G H σ r Q eo p
  refine ha B G0 G H σ r _ eo ?_
  refine Post.bind (R2 := R) p fun d r1 v G1 H1 e1 s1 hv q1 => ?_
  cases hf : f d with
  | none => rw [hf] at q1; exact q1.elim
  | some z =>
    rw [hf] at q1
    exact ho B G0 G1 H1 σ r1 v d z Q e1 hv hf fun v3 G3 H3 e3 s3 h3 => q1 v3 G3 H3 e3 s3 h3
theorem d_neg {ta : En → Out PyData} (ha : Ed X W C a ta) : Ed X W C (.UnaryOp .USub a pos) (op1 fNeg ta) := by
  obtain ⟨ea, a1, a2⟩ := ha.ex
  refine ⟨_, pe_un un_neg a1, j_op1 (rop := fun x H Q => rU (fun i => V.int (-i)) x H Q) a2 fun B G0 G H σ r x d s Q eo hx hf q => ?_⟩
  cases hx with
  | int i =>
    cases hf
    exact ⟨i, rfl, q _ G H eo (Same.refl G) (.int _)⟩
  | _ => cases hf

/-! ### subscripts -/
def fIx : PyData → PyData → Option PyData
  | .tuple ds, .int i => atI ds i
  | .list ds, .int i => atI ds i
  | .str z, .int i => if z.length ≤ sizeLine then (atI z.cps.toList i).map fun c => .str ⟨#[c]⟩ else none
  | _, _ => none
theorem dpAll_at {K : PySem.W.Frag} {G : Hp} {vs : List V} {ds : List PyData} {i : Int} {d : PyData} (h : DpAll K G vs ds) (ha : atI ds i = some d) : ∃ v, atI vs i = some v ∧ Dp K G v d := by
  unfold atI at ha ⊢
  rw [dpAll_len h]
  cases hn : ixN ds.length i with
  | none => rw [hn] at ha; cases ha
  | some j =>
    rw [hn] at ha
    exact dpAll_get h j d ha
theorem opd_ix {K : PySem.W.Frag} : OpD K (rIx K) fIx := by
  intro B G0 G H σ r x y d e z Q eo hx hy h q
  cases hy with
  | int i =>
    cases hx with
    | str z0 =>
      simp only [fIx] at h
      split at h
      · rename_i hz
        cases hc : atI z0.cps.toList i with
        | none => rw [hc] at h; cases h
        | some c =>
          rw [hc] at h
          cases h
          exact .inr (.inr ⟨z0, i, c, rfl, rfl, hz, hc, q _ G H eo (Same.refl G) (.str _)⟩)
      · cases h
    | lst h1 h2 =>
      obtain ⟨v, hv, dv⟩ := dpAll_at h2 h
      exact .inl ⟨_, _, i, v, rfl, rfl, eo.gh.seq h1, hv, q v G H eo (Same.refl G) dv⟩
    | tup h1 h2 =>
      obtain ⟨v, hv, dv⟩ := dpAll_at h2 h
      exact .inr (.inl ⟨_, _, i, v, rfl, rfl, same_t eo.gh h1, hv, q v G H eo (Same.refl G) dv⟩)
    | _ => cases h
  | _ => cases hx <;> cases h
theorem d_ix {ta tb : En → Out PyData} (ha : Ed X W C a ta) (hb : Ed X W C b tb) (hs : PlainIx b := by exact fun _ _ => rfl) : Ed X W C (.Subscript a b pos) (op2 fIx ta tb) := by
  obtain ⟨ea, a1, a2⟩ := ha.ex
  obtain ⟨eb, b1, b2⟩ := hb.ex
  exact ⟨_, pe_ix ix_seq a1 b1 hs, j_op2 a2 b2 opd_ix⟩
/-- x[b], x a name: the list stays one's own -/
@[simp] def dIxV (i : Nat) (t : En → Out PyData) : En → Out PyData := fun r => match r[i]? with
  | some (.dat d) => (t r).bind fun e r => ofO (fIx d e) r
  | some (.own _) => (t r).bind fun e r => match r[i]? with
    | some (.own l) => ofO (fIx (.list l) e) r
    | _ => .bot
  | _ => .bot
theorem d_ixV (i : Nat) {x : Str} {p : Pos} {tb : En → Out PyData} (hb : Ed X W C b tb) (hs : PlainIx b := by exact fun _ _ => rfl) (hN : X.N[i]? = some x := by rfl) (hv : Vis X.env.scope x := by first | exact Or.inl rfl | exact Or.inr (Or.inl rfl) | exact Or.inr (Or.inr rfl))
    (hd : (x == ("__debug__" : Str)) = false := by decide) (hcd : (x == ("__classdict__" : Str)) = false := by decide) : Ed X W C (.Subscript (.Name x p) b pos) (dIxV i tb) := by
  obtain ⟨eb, b1, b2⟩ := hb.ex
  refine ⟨_, pe_ix ix_seq (pe_var hN hv hd hcd) b1 hs, fun B G0 G H σ r Q eo pp => ?_⟩
  unfold dIxV at pp
  cases hr : r[i]? with
  | none => rw [hr] at pp; exact pp.elim
  | some s =>
    rw [hr] at pp
    cases s with
    | emp => exact pp.elim
    | dic l => exact pp.elim
    | exc a c => exact pp.elim
    | dat d =>
      obtain ⟨v, h1, x, rfl, h2⟩ := eo.slot i _ hr
      refine ⟨x, h1, b2 B G0 G H σ r _ eo ?_⟩
      refine Post.bind (R2 := rD) pp fun e r1 v1 G1 H1 e1 s1 hv1 q1 => ?_
      cases hf : fIx d e with
      | none => rw [hf] at q1; exact q1.elim
      | some z =>
        rw [hf] at q1
        exact opd_ix B G0 G1 H1 σ r1 x v1 d e z Q e1 (dp_same s1 _ _ h2) hv1 hf fun v3 G3 H3 e3 s3 h3 => q1 v3 G3 H3 e3 s3 h3
    | own l0 =>
      obtain ⟨v, h1, q0, vs0, rfl, _⟩ := eo.slot i _ hr
      refine ⟨_, h1, b2 B G0 G H σ r _ eo ?_⟩
      refine Post.bind (R2 := rD) pp fun e r1 v1 G1 H1 e1 s1 hv1 q1 => ?_
      cases hr1 : r1[i]? with
      | none => rw [hr1] at q1; exact q1.elim
      | some s1' =>
        rw [hr1] at q1
        cases s1' with
        | emp => exact q1.elim
        | dic l => exact q1.elim
        | exc a c => exact q1.elim
        | dat d => exact q1.elim
        | own l =>
          obtain ⟨v2, k1, p2, vs2, k2, k3, k4, k5, k6⟩ := e1.slot i _ hr1
          rw [h1] at k1
          cases k1
          cases k2
          cases hv1 with
          | int j =>
            cases hf : fIx (.list l) (.int j) with
            | none =>
              have q2 : Post rD X.K W C B G0 G1 σ Q (ofO (fIx (.list l) (.int j)) r1) := q1
              rw [hf] at q2
              exact q2.elim
            | some z =>
              have q2 : Post rD X.K W C B G0 G1 σ Q (ofO (fIx (.list l) (.int j)) r1) := q1
              rw [hf] at q2
              obtain ⟨w, hw, dw⟩ := dpAll_at k6 hf
              exact .inl ⟨_, _, j, w, rfl, rfl, SqL.of k5, hw, q2.one e1 dw⟩
          | _ => exact q1.elim

/-! ### slices -/
@[simp] def oNone : En → Out (Option Int) := fun r => .ok none r
@[simp] def oSome (t : En → Out PyData) : En → Out (Option Int) := fun r => (t r).bind fun d r => match d with
  | .int i => .ok (some i) r
  | _ => .bot
theorem o_none : Od X W C none oNone := ⟨_, po_none, fun B G0 G H σ r Q eo p => p none G H eo (Same.refl G) rfl⟩
theorem o_some {ta : En → Out PyData} (ha : Ed X W C a ta) : Od X W C (some a) (oSome ta) := by
  obtain ⟨ea, a1, a2⟩ := ha.ex
  refine ⟨_, po_some a1, fun B G0 G H σ r Q eo p => a2 B G0 G H σ r _ eo ?_⟩
  refine Post.bind (R2 := L2.Itr 0 0 |> fun _ => GM.rI (Option Int)) p fun d r1 v G1 H1 e1 s1 hv q => ?_
  cases hv with
  | int i => exact ⟨i, rfl, q.one e1 rfl⟩
  | _ => exact q.elim
def cutL {α : Type} (xs : List α) (lo hi : Option Int) : List α := (xs.drop (HT.sIx xs.length 0 lo)).take (HT.sIx xs.length xs.length hi - HT.sIx xs.length 0 lo)
theorem dpAll_cut {K : PySem.W.Frag} {G : Hp} {vs : List V} {ds : List PyData} (lo hi : Option Int) (h : DpAll K G vs ds) : DpAll K G (cutV vs lo hi) (cutL ds lo hi) := by
  unfold cutV cutL
  rw [dpAll_len h]
  exact dpAll_take _ (dpAll_drop _ h)
def fSl (d : PyData) (lo hi : Option Int) : Option Sl := match d with
  | .list ds => some (.own (cutL ds lo hi))
  | .tuple ds => some (.dat (.tuple (cutL ds lo hi)))
  | .str z => if z.length ≤ sizeLine then some (.dat (.str (cutS z lo hi))) else none
  | _ => none
@[simp] def dSl (t : En → Out PyData) (l u : En → Out (Option Int)) : En → Out Sl := fun r => (t r).bind fun d r => (l r).bind fun lo r => (u r).bind fun hi r => ofO (fSl d lo hi) r
theorem cutL_whole {α : Type} {xs : List α} {lo hi : Option Int} (h : HT.sIx xs.length 0 lo = 0 ∧ HT.sIx xs.length xs.length hi = xs.length) : cutL xs lo hi = xs := by
  unfold cutL
  rw [h.1, h.2]
  simp
theorem s_slice {lo hi : Option Expr} {p2 : Pos} {ta : En → Out PyData} {tl tu : En → Out (Option Int)} (ha : Ed X W C a ta) (hl : Od X W C lo tl) (hu : Od X W C hi tu) : Es X W C (.Subscript a (.Slice lo hi none p2) pos) (dSl ta tl tu) := by
  obtain ⟨ea, a1, a2⟩ := ha.ex
  obtain ⟨el, l1, l2⟩ := hl.ex
  obtain ⟨eu, u1, u2⟩ := hu.ex
  refine ⟨_, pe_slice (sl_list.or (sl_tupA.or sl_str)) a1 l1 u1, fun B G0 G H σ r Q eo p => a2 B G0 G H σ r _ eo ?_⟩
  refine Post.bind (R2 := rS) p fun d r1 v G1 H1 e1 s1 hv q1 => l2 B G0 G1 H1 σ r1 _ e1 ?_
  refine Post.bind (R2 := rS) q1 fun lo' r2 lo2 G2 H2 e2 s2 hlo q2 => u2 B G0 G2 H2 σ r2 _ e2 ?_
  refine Post.bind (R2 := rS) q2 fun hi' r3 hi2 G3 H3 e3 s3 hhi q3 => ?_
  cases hlo
  cases hhi
  have hv3 := dp_same (s2.trans s3) _ _ hv
  cases hv3 with
  | lst h1 h2 => exact .inl ⟨_, _, rfl, e3.gh.seq h1, fun p hp => q3 _ _ _ (e3.newOwn hp) (Same.refl _) (e3.vOwn hp (dpAll_cut _ _ h2))⟩
  | @tup a' xs ds h1 h2 =>
    refine .inr (.inl ⟨_, _, rfl, same_t e3.gh h1, fun z => ?_, fun z p hp => ?_⟩)
    · have q4 : Post rS X.K W C B G0 G3 σ Q (.ok (.dat (.tuple (cutL ds lo' hi'))) r3) := q3
      rw [cutL_whole (by rw [← dpAll_len h2]; exact z)] at q4
      exact q4.one e3 (Dp.tup h1 h2)
    · have hG := e3.gh.free hp
      exact q3 _ _ _ (e3.newDat hp) (same_upd hG) (Dp.tup (SqT.of upd_same) (dpAll_same (same_upd hG) _ _ (dpAll_cut _ _ h2)))
  | str z0 =>
    have q4 : Post rS X.K W C B G0 G3 σ Q (ofO (if z0.length ≤ sizeLine then some (.dat (.str (cutS z0 lo' hi'))) else none) r3) := q3
    split at q4
    · rename_i hz
      exact .inr (.inr ⟨z0, rfl, hz, q4.one e3 (Dp.str _)⟩)
    · exact q4.elim
  | _ => exact q3.elim

/-! ### truth: and, or, not -/
@[simp] def dAnd (t u : En → Out PyData) : En → Out PyData := fun r => (t r).bind fun d r => match d with
  | .bool true => u r
  | .bool false => .ok (.bool false) r
  | _ => .bot
@[simp] def dOr (t u : En → Out PyData) : En → Out PyData := fun r => (t r).bind fun d r => match d with
  | .bool true => .ok (.bool true) r
  | .bool false => u r
  | _ => .bot
@[simp] def dNot (t : En → Out PyData) : En → Out PyData := fun r => (t r).bind fun d r => match d with
  | .bool c => .ok (.bool (!c)) r
  | _ => .bot
theorem d_one {op} {ta : En → Out PyData} (ha : Ed X W C a ta) : Ed X W C (.BoolOp op [a] pos) ta := by
  obtain ⟨ea, a1, a2⟩ := ha.ex
  exact ⟨_, pe_one a1, a2⟩
theorem d_and {rest : List Expr} {ta tb : En → Out PyData} (ha : Ed X W C a ta) (hb : Ed X W C (.BoolOp .And (b :: rest) pos) tb) : Ed X W C (.BoolOp .And (a :: b :: rest) pos) (dAnd ta tb) := by
  obtain ⟨ea, a1, a2⟩ := ha.ex
  obtain ⟨eb, b1, b2⟩ := hb.ex
  refine ⟨_, pe_and a1 b1, fun B G0 G H σ r Q eo p => a2 B G0 G H σ r _ eo ?_⟩
  refine Post.bind (R2 := rD) p fun d r1 v G1 H1 e1 s1 hv q => ?_
  cases hv with
  | bl c =>
    refine ⟨c, rfl, ?_⟩
    cases c with
    | true => exact iteT (b2 B G0 G1 H1 σ r1 Q e1 q)
    | false => exact iteF (q.one e1 (Dp.bl false))
  | _ => exact q.elim
theorem d_or {rest : List Expr} {ta tb : En → Out PyData} (ha : Ed X W C a ta) (hb : Ed X W C (.BoolOp .Or (b :: rest) pos) tb) : Ed X W C (.BoolOp .Or (a :: b :: rest) pos) (dOr ta tb) := by
  obtain ⟨ea, a1, a2⟩ := ha.ex
  obtain ⟨eb, b1, b2⟩ := hb.ex
  refine ⟨_, pe_or a1 b1, fun B G0 G H σ r Q eo p => a2 B G0 G H σ r _ eo ?_⟩
  refine Post.bind (R2 := rD) p fun d r1 v G1 H1 e1 s1 hv q => ?_
  cases hv with
  | bl c =>
    refine ⟨c, rfl, ?_⟩
    cases c with
    | true => exact iteT (q.one e1 (Dp.bl true))
    | false => exact iteF (b2 B G0 G1 H1 σ r1 Q e1 q)
  | _ => exact q.elim
theorem d_not {ta : En → Out PyData} (ha : Ed X W C a ta) : Ed X W C (.UnaryOp .Not a pos) (dNot ta) := by
  obtain ⟨ea, a1, a2⟩ := ha.ex
  refine ⟨_, pe_not a1, fun B G0 G H σ r Q eo p => a2 B G0 G H σ r _ eo ?_⟩
  refine Post.bind (R2 := rD) p fun d r1 v G1 H1 e1 s1 hv q => ?_
  cases hv with
  | bl c => exact ⟨c, rfl, q.one e1 (Dp.bl _)⟩
  | _ => exact q.elim
@[simp] def tAndD (t u : En → Out Bool) : En → Out Bool := fun r => (t r).bind fun c r => if c = true then u r else .ok false r
@[simp] def tOrD (t u : En → Out Bool) : En → Out Bool := fun r => (t r).bind fun c r => if c = true then .ok true r else u r
@[simp] def tNotD (t : En → Out Bool) : En → Out Bool := fun r => (t r).bind fun c r => .ok (!c) r
theorem w_and1 {ta : En → Out Bool} (ha : Td X W C a ta) : Wd X W C (.BoolOp .And [a] pos) ta := by
  obtain ⟨ea, a1, a2⟩ := ha.ex
  exact ⟨_, pw_and1 a1, a2⟩
theorem w_or1 {ta : En → Out Bool} (ha : Td X W C a ta) : Wd X W C (.BoolOp .Or [a] pos) ta := by
  obtain ⟨ea, a1, a2⟩ := ha.ex
  exact ⟨_, pw_or1 a1, a2⟩
theorem w_and {rest : List Expr} {ta tb : En → Out Bool} (ha : Td X W C a ta) (hb : Wd X W C (.BoolOp .And (b :: rest) pos) tb) : Wd X W C (.BoolOp .And (a :: b :: rest) pos) (tAndD ta tb) := by
  obtain ⟨ea, a1, a2⟩ := ha.ex
  obtain ⟨eb, b1, b2⟩ := hb.ex
  refine ⟨_, pw_and a1 b1, fun B G0 G H σ r Q eo p => a2 B G0 G H σ r _ eo ?_⟩
  refine Post.bind (R2 := rI Bool) p fun c r1 c' G1 H1 e1 s1 hc q => ?_
  cases hc
  cases c with
  | true => exact iteT (b2 B G0 G1 H1 σ r1 Q e1 q)
  | false => exact iteF (q.one e1 rfl)
theorem w_or {rest : List Expr} {ta tb : En → Out Bool} (ha : Td X W C a ta) (hb : Wd X W C (.BoolOp .Or (b :: rest) pos) tb) : Wd X W C (.BoolOp .Or (a :: b :: rest) pos) (tOrD ta tb) := by
  obtain ⟨ea, a1, a2⟩ := ha.ex
  obtain ⟨eb, b1, b2⟩ := hb.ex
  refine ⟨_, pw_or a1 b1, fun B G0 G H σ r Q eo p => a2 B G0 G H σ r _ eo ?_⟩
  refine Post.bind (R2 := rI Bool) p fun c r1 c' G1 H1 e1 s1 hc q => ?_
  cases hc
  cases c with
  | true => exact iteT (q.one e1 rfl)
  | false => exact iteF (b2 B G0 G1 H1 σ r1 Q e1 q)
theorem Wd.t {ta : En → Out Bool} (h : Wd X W C e ta) : Td X W C e ta := by
  obtain ⟨ea, a1, a2⟩ := h.ex
  exact ⟨_, a1.pt, a2⟩
theorem t_not {ta : En → Out Bool} (ha : Td X W C a ta) : Td X W C (.UnaryOp .Not a pos) (tNotD ta) := by
  obtain ⟨ea, a1, a2⟩ := ha.ex
  refine ⟨_, pt_not a1, fun B G0 G H σ r Q eo p => a2 B G0 G H σ r _ eo ?_⟩
  refine Post.bind (R2 := rI Bool) p fun c r1 c' G1 H1 e1 s1 hc q => ?_
  cases hc
  exact q.one e1 rfl
/-- a test whose value is True or False -/
@[simp] def tVal (t : En → Out PyData) : En → Out Bool := fun r => (t r).bind fun d r => match d with
  | .bool c => .ok c r
  | _ => .bot
theorem t_valD {ta : En → Out PyData} (ha : Ed X W C a ta) (he : ∀ whole, isTrue a X.env whole = (do let v ← whole; standAt a.pos; holding [v] (truthy v)) := by intro _; rfl) : Td X W C a (tVal ta) := by
  obtain ⟨ea, a1, a2⟩ := ha.ex
  refine ⟨_, pt_val a1 he, fun B G0 G H σ r Q eo p => a2 B G0 G H σ r _ eo ?_⟩
  refine Post.bind (R2 := rI Bool) p fun d r1 v G1 H1 e1 s1 hv q => ?_
  cases hv with
  | bl c => exact ⟨c, rfl, q.one e1 rfl⟩
  | _ => exact q.elim
/-- while xs: -/
@[simp] def tTruV (i : Nat) : En → Out Bool := fun r => match r[i]? with
  | some (.own l) => .ok (!l.isEmpty) r
  | _ => .bot
theorem t_truV (i : Nat) {x : Str} (hN : X.N[i]? = some x := by rfl) (hv : Vis X.env.scope x := by first | exact Or.inl rfl | exact Or.inr (Or.inl rfl) | exact Or.inr (Or.inr rfl)) (hd : (x == ("__debug__" : Str)) = false := by decide)
    (hcd : (x == ("__classdict__" : Str)) = false := by decide) (he : ∀ whole, isTrue (.Name x pos) X.env whole = (do let v ← whole; standAt (Expr.Name x pos).pos; holding [v] (truthy v)) := by intro _; rfl) : Td X W C (.Name x pos) (tTruV i) := by
  refine ⟨_, pt_truth (pe_var hN hv hd hcd) he, fun B G0 G H σ r Q eo p => ?_⟩
  unfold tTruV at p
  cases hr : r[i]? with
  | none => rw [hr] at p; exact p.elim
  | some s =>
    rw [hr] at p
    cases s with
    | own l =>
      obtain ⟨v, h1, q, vs, rfl, hG, hB, hH, ha⟩ := eo.slot i _ hr
      refine ⟨_, h1, !l.isEmpty, .inl ⟨vs, SqL.of hH, ?_⟩, p.one eo rfl⟩
      have hl := dpAll_len ha
      cases vs <;> cases l <;> first | rfl | cases hl
    | _ => exact p.elim

/-! ### built-ins -/
def fLen : PyData → Option PyData
  | .str y => if y.length ≤ sizeLine then some (.int y.length) else none
  | .list l => some (.int l.length)
  | .tuple l => some (.int l.length)
  | _ => none
theorem lenV_of {K : PySem.W.Frag} {B G0 G H : Hp} {σ : St} {r : En} {v : V} {d z : PyData} (eo : EO K B G0 G H σ r) (h : Dp K G v d) (hf : fLen d = some z) : ∃ n, LenV K v H n ∧ z = .int n := by
  cases h with
  | str y =>
    simp only [fLen] at hf
    split at hf
    · rename_i hz
      cases hf
      exact ⟨_, ⟨hz, rfl⟩, rfl⟩
    · cases hf
  | lst h1 h2 =>
    cases hf
    exact ⟨_, .inl ⟨_, eo.gh.seq h1, rfl⟩, by rw [dpAll_len h2]⟩
  | tup h1 h2 =>
    cases hf
    exact ⟨_, .inr ⟨_, same_t eo.gh h1, rfl⟩, by rw [dpAll_len h2]⟩
  | _ => cases hf
theorem d_len {p : Pos} {ta : En → Out PyData} (hm : X.mg "len" = none) (ha : Ed X W C a ta) (hg : Gl X "len" := by rfl) (hs : starEach (a :: []) X.env = (false, eval a X.env) :: starEach [] X.env := by rfl) (hpl : (backTo pos (starEach [] X.env)).any (·.1) = false := by rfl) :
    Ed X W C (.Call (.Name "len" p) [a] [] pos) (op1 fLen ta) := by
  obtain ⟨ea, a1, a2⟩ := ha.ex
  refine ⟨_, pe_callB call_len hg hm PySem.boot_len (pa_cons a1 pa_nil hs) (he := hs) (hpl := hpl), fun B G0 G H σ r Q eo p => ?_⟩
  refine j_op1 (R := rD) (rop := fun x H Q => tNil σ H fun xs H2 => ∃ y n, x :: xs = [y] ∧ LenV X.K y H2 n ∧ Q (.int n) H2) a2 (fun B G0 G H σ r x d s Q eo hx hf q => ?_) B G0 G H σ r Q eo p
  obtain ⟨n, hn, rfl⟩ := lenV_of eo hx hf
  exact ⟨x, n, rfl, hn, q _ G H eo (Same.refl G) (.int _)⟩
@[simp] def dLenV (i : Nat) : En → Out PyData := fun r => match r[i]? with
  | some (.own l) => .ok (.int l.length) r
  | some (.dat d) => ofO (fLen d) r
  | _ => .bot
theorem d_lenV (i : Nat) {x : Str} {p p2 : Pos} (hm : X.mg "len" = none) (hg : Gl X "len" := by rfl) (hN : X.N[i]? = some x := by rfl) (hv : Vis X.env.scope x := by first | exact Or.inl rfl | exact Or.inr (Or.inl rfl) | exact Or.inr (Or.inr rfl))
    (hd : (x == ("__debug__" : Str)) = false := by decide) (hcd : (x == ("__classdict__" : Str)) = false := by decide) (hs : starEach (.Name x p2 :: []) X.env = (false, eval (.Name x p2) X.env) :: starEach [] X.env := by rfl) (hpl : (backTo pos (starEach [] X.env)).any (·.1) = false := by rfl) :
    Ed X W C (.Call (.Name "len" p) [.Name x p2] [] pos) (dLenV i) := by
  refine ⟨_, pe_callB call_len hg hm PySem.boot_len (pa_cons (pe_var hN hv hd hcd) pa_nil hs) (he := hs) (hpl := hpl), fun B G0 G H σ r Q eo pp => ?_⟩
  unfold dLenV at pp
  cases hr : r[i]? with
  | none => rw [hr] at pp; exact pp.elim
  | some s =>
    rw [hr] at pp
    cases s with
    | own l =>
      obtain ⟨v, h1, q, vs, rfl, hG, hB, hH, ha⟩ := eo.slot i _ hr
      exact ⟨_, h1, _, vs.length, rfl, .inl ⟨vs, SqL.of hH, rfl⟩, by rw [dpAll_len ha]; exact pp.one eo (Dp.int _)⟩
    | dat d =>
      obtain ⟨v, h1, x, rfl, h2⟩ := eo.slot i _ hr
      cases hf : fLen d with
      | none =>
        have pp' : Post rD X.K W C B G0 G σ Q (ofO (fLen d) r) := pp
        rw [hf] at pp'
        exact pp'.elim
      | some z =>
        have pp' : Post rD X.K W C B G0 G σ Q (ofO (fLen d) r) := pp
        rw [hf] at pp'
        obtain ⟨n, hn, rfl⟩ := lenV_of eo h2 hf
        exact ⟨x, h1, x, n, rfl, hn, pp'.one eo (Dp.int _)⟩
    | _ => exact pp.elim
/-- isinstance(x, T), T a built-in class -/
@[simp] def tyName : PyData → String
  | .none => "NoneType"
  | .bool _ => "bool"
  | .int _ => "int"
  | .str _ => "str"
  | .list _ => "list"
  | .tuple _ => "tuple"
  | .dict _ => "dict"
@[simp] def isiT (T n : String) : Bool := n == T || (T == "int" && n == "bool")
@[simp] def fIsi (T : String) (d : PyData) : Option PyData := some (.bool (isiT T (tyName d)))
theorem tyX_of {K : PySem.W.Frag} {G H : Hp} {v : V} {d : PyData} (s : Same G H) (h : Dp K G v d) : TyX K H v (.type (tyName d)) := by
  cases h with
  | non => exact .base .non
  | bl b => exact .base (.bl b)
  | int i => exact .base (.int i)
  | str x => exact .base (.str x)
  | lst h1 h2 =>
    rcases h1 with (h1 | ⟨o, h1⟩) | ⟨o, its, n, hk, hc, _⟩
    · exact .base (.lst (s _ _ h1))
    · exact .base (.frz (s _ _ h1))
    · exact .kList hk hc
  | tup h1 h2 =>
    rcases h1 with (h1 | ⟨o, h1⟩) | ⟨o, its, n, hk, hc, _⟩
    · exact .base (.tup (s _ _ h1))
    · exact .fTuple (s _ _ h1)
    · exact .kTuple hk hc
  | dic0 h1 => exact .base (.dK (s _ _ h1))
/-- the five answers, by the kernel -/
def IsiOk (T : String) : Prop := ∀ (K : PySem.W.Frag) (n : String), n ∈ ["NoneType", "bool", "int", "str", "list", "tuple", "dict"] → PySem.W.kitOne K (.type n) (.type T) = some (isiT T n)
theorem tyName_mem (d : PyData) : tyName d ∈ ["NoneType", "bool", "int", "str", "list", "tuple", "dict"] := by
  cases d <;> simp [tyName]
theorem d_isi {T : Str} {T' : String} {p p3 : Pos} {ta : En → Out PyData} (hT : IsiOk T') (hm : X.mg "isinstance" = none) (hmT : X.mg T = none) (hbT : bootBuiltins T = some (.type T')) (ha : Ed X W C a ta) (hg : Gl X "isinstance" := by rfl) (hgT : Gl X T := by rfl)
    (hn : T ≠ "__name__" := by decide) (hd : (T == ("__debug__" : Str)) = false := by decide)
    (hs : starEach (a :: [.Name T p3]) X.env = (false, eval a X.env) :: starEach [.Name T p3] X.env := by rfl) (hs2 : starEach (.Name T p3 :: []) X.env = (false, eval (.Name T p3) X.env) :: starEach [] X.env := by rfl) (hpl : (backTo pos (starEach [.Name T p3] X.env)).any (·.1) = false := by rfl) :
    Ed X W C (.Call (.Name "isinstance" p) [a, .Name T p3] [] pos) (op1 (fIsi T') ta) := by
  obtain ⟨ea, a1, a2⟩ := ha.ex
  refine ⟨_, pe_callB call_isi hg hm PyProof.Rows.boot_isinstance (pa_cons a1 (pa_cons (pe_bltn (v := .ty T') hgT hmT hbT rfl hn hd) pa_nil hs2) hs) (he := hs) (hpl := hpl), fun B G0 G H σ r Q eo p => ?_⟩
  refine j_op1 (R := rD) (rop := fun x H Q => rIsi X.K [x, .ty T'] H Q) a2 (fun B G0 G H σ r x d s Q eo hx hf q => ?_) B G0 G H σ r Q eo p
  cases hf
  exact ⟨x, .ty T', .type (tyName d), .type T', _, rfl, .ty T', tyX_of eo.gh hx, hT X.K _ (tyName_mem d), q _ G H eo (Same.refl G) (.bl _)⟩
end

section
variable (i : Int) (x : Str) (xs : List PyData) (lo hi : Option Int)
@[simp] theorem fNeg_i : fNeg (.int i) = some (.int (-i)) := rfl
@[simp] theorem fIx_t : fIx (.tuple xs) (.int i) = atI xs i := rfl
@[simp] theorem fIx_l : fIx (.list xs) (.int i) = atI xs i := rfl
@[simp] theorem fIx_s : fIx (.str x) (.int i) = if x.length ≤ sizeLine then (atI x.cps.toList i).map fun c => .str ⟨#[c]⟩ else none := rfl
@[simp] theorem fSl_l : fSl (.list xs) lo hi = some (.own (cutL xs lo hi)) := rfl
@[simp] theorem fSl_t : fSl (.tuple xs) lo hi = some (.dat (.tuple (cutL xs lo hi))) := rfl
@[simp] theorem fSl_s : fSl (.str x) lo hi = if x.length ≤ sizeLine then some (.dat (.str (cutS x lo hi))) else none := rfl
@[simp] theorem fLen_s : fLen (.str x) = if x.length ≤ sizeLine then some (.int x.length) else none := rfl
@[simp] theorem fLen_l : fLen (.list xs) = some (.int xs.length) := rfl
@[simp] theorem fLen_t : fLen (.tuple xs) = some (.int xs.length) := rfl
end
end GM

namespace GM
open PySem PySem.Spec L2
/-! ### a def's promise by data -/
def spD (K : PySem.W.Frag) (C : Er → Addr) (n : Nat) (F : List PyData → Res) : Sp := fun vs H Q E => vs.length = n ∧ ∃ (G : Hp) (ds : List PyData), Same G H ∧ DpAll K G vs ds ∧
  match F ds with
  | .ok s => ∀ v G' H', Same H H' → Same G G' → Same G' H' → (∀ p, G' p ≠ none → G p ≠ none ∨ H p = none) → SlOk K H G' H' (some v) s → Q v H'
  | .err c => ∀ H', Same H H' → E (.ref (C c)) none H'
  | .bot => False
structure Fn (P : Program) (w : World) (K : PySem.W.Frag) (mg : Str → Option Value) (base : Heap) (C : Er → Addr) (k : Nat) (x : Str) (n : Nat) (F : List PyData → Res) : Prop where
  ex : ∃ (f : Addr) (fd : FuncData) (ps : List Str), FnOk P w K mg base (L2N.CX P w) k f fd ps (spD K C n F) ∧ mg x = some (.ref f) ∧ PySem.W.keepIn K (.ref f) = true ∧ Binds K fd ps []
@[simp] def sCall (F : List PyData → Res) (t : En → Out (List PyData)) : En → Out Sl := fun r => (t r).bind fun ds r => match F ds with
  | .ok .emp => .bot
  | .ok (.exc _ _) => .bot
  | .ok s => .ok s r
  | .err c => .err c r
  | .bot => .bot
section
variable {X : Cx} {W : WX} {C : Er → Addr} {pos : Pos} {e a b : Expr} {es : List Expr}
theorem spD_of {K : PySem.W.Frag} {B G0 G H : Hp} {σ : St} {r : En} {n : Nat} {vs : List V} {ds : List PyData} {F : List PyData → Res} {Q : VK} (eo : EO K B G0 G H σ r) (hd : DpAll K G vs ds) (hn : vs.length = n)
    (p : Post rS K W C B G0 G σ Q (match F ds with
      | .ok .emp => .bot
      | .ok (.exc _ _) => .bot
      | .ok s => .ok s r
      | .err c => .err c r
      | .bot => .bot)) : spD K C n F vs H Q (WE W σ) := by
  refine ⟨hn, G, ds, eo.gh, hd, ?_⟩
  have st : ∀ G' H', Same H H' → Same G G' → Same G' H' → (∀ p, G' p ≠ none → G p ≠ none ∨ H p = none) → EO K B G0 G' H' σ r := fun G' H' h1 h2 h3 h4 =>
    eo.step (eo.bh.trans h1) h2 h3 (fun q hq => (h4 q hq).elim .inl fun z => .inr ⟨eo.bh.free z, eo.notMine z⟩) fun i q m => by
      obtain ⟨_, _, o, ho⟩ := eo.mine m
      rw [ho, h1 _ _ ho]
  cases hF : F ds with
  | bot => rw [hF] at p; exact p
  | err c =>
    rw [hF] at p
    exact fun H' h1 => p G H' (st G H' h1 (Same.refl G) (eo.gh.trans h1) fun q hq => .inl hq) (Same.refl G)
  | ok s =>
    rw [hF] at p
    refine fun v G' H' h1 h2 h3 h4 hs => ?_
    have e1 := st G' H' h1 h2 h3 h4
    cases s with
    | emp => exact p.elim
    | exc a c => exact p.elim
    | dat d =>
      obtain ⟨x, e2, e3⟩ := hs
      cases e2
      exact p v G' H' e1 h2 e3
    | own l =>
      obtain ⟨q, us, e2, e3, e4, e5, e6⟩ := hs
      cases e2
      exact p _ G' H' e1 h2 ⟨q, us, rfl, e3, eo.bh.free e4, e5, e6, fun i m => eo.notMine e4 i m⟩
    | dic l =>
      obtain ⟨q, us, e2, e3, e4, e5, e6⟩ := hs
      cases e2
      exact p _ G' H' e1 h2 ⟨q, us, rfl, e3, eo.bh.free e4, e5, e6, fun i m => eo.notMine e4 i m⟩
/-- f(e, ..), f a def of the text -/
theorem s_call {x : Str} {p : Pos} {k k' n : Nat} {F : List PyData → Res} {t : En → Out (List PyData)} (hF : Fn X.prog X.w X.K X.mg X.base C k x n F) (hr : Room k' X.A) (tk : L2N.Takes X W) (ha : Ad X W C (e :: es) t) (l : Len n t) (hk : k ≤ k' := by decide) (hg : Gl X x := by rfl)
    (hdb : (x == ("__debug__" : Str)) = false := by decide) (he : starEach (e :: es) X.env = (false, eval e X.env) :: starEach es X.env := by rfl) (hpl : (backTo pos (starEach es X.env)).any (·.1) = false := by rfl) :
    Es X W C (.Call (.Name x p) (e :: es) [] pos) (sCall F t) := by
  obtain ⟨f, fd, ps, F1, F2, F3, F4⟩ := hF.ex
  obtain ⟨ea, a1, a2⟩ := ha.ex
  refine ⟨_, pe_callS F1 (hr.mono hk) hg F2 F3 F4 (fun σ => L2N.passAt tk σ) a1 hdb he hpl, fun B G0 G H σ r Q eo p => a2 B G0 G H σ r _ eo (Post.len l ?_)⟩
  exact Post.bind (R2 := rS) p fun ds r1 vs G1 H1 e1 s1 hvs q hl => spD_of e1 hvs hl q

/-! ### methods of a list of one's own -/
theorem tyList {K : PySem.W.Frag} {H : Hp} {p : Addr} {vs : List V} (h : H p = some (.lst vs)) : tyV K "list" (.ref p) H := .inl ⟨rfl, vs, SqL.of h⟩
@[simp] def dPop (i : Nat) : En → Out PyData := fun r => match r[i]? with
  | some (.own l) => match l.getLast? with
    | some d => .ok d (r.set i (.own l.dropLast))
    | none => .bot
  | _ => .bot
theorem d_pop (i : Nat) {x : Str} {p apos : Pos} (hN : X.N[i]? = some x := by rfl) (hv : Vis X.env.scope x := by first | exact Or.inl rfl | exact Or.inr (Or.inl rfl) | exact Or.inr (Or.inr rfl)) (hd : (x == ("__debug__" : Str)) = false := by decide)
    (hcd : (x == ("__classdict__" : Str)) = false := by decide) (hbase : attributeBase (.Name x p) "pop" X.env (eval (.Name x p) X.env) = eval (.Name x p) X.env := by rfl) (hline : (apos.endLine == pos.line) = true := by rfl) :
    Ed X W C (.Call (.Attribute (.Name x p) "pop" apos) [] [] pos) (dPop i) := by
  refine ⟨_, pe_bm0 PySem.F.plainAttrs_list PySem.F.slot_list_pop PySem.F.type_list_pop mt_pop (pe_var hN hv hd hcd) hbase hline, fun B G0 G H σ r Q eo pp => ?_⟩
  unfold dPop at pp
  cases hr : r[i]? with
  | none => rw [hr] at pp; exact pp.elim
  | some s =>
    rw [hr] at pp
    cases s with
    | own l =>
      obtain ⟨v, h1, q, vs, rfl, hG, hB, hH, ha⟩ := eo.slot i _ hr
      have pp' : Post rD X.K W C B G0 G σ Q (match l.getLast? with | some d => .ok d (r.set i (.own l.dropLast)) | none => .bot) := pp
      cases hl : l.getLast? with
      | none => rw [hl] at pp'; exact pp'.elim
      | some d =>
        rw [hl] at pp'
        obtain ⟨y, hy, dy⟩ := dpAll_get ha (l.length - 1) d (by rw [← List.getLast?_eq_getElem?]; exact hl)
        refine ⟨_, h1, tyList hH, q, vs, y, rfl, rfl, hH, by rw [dpAll_len ha]; exact hy, ?_⟩
        refine pp'.one (eo.mut h1 hr rfl (s := .own l.dropLast) ⟨q, _, rfl, hG, hB, upd_same, dpAll_dropLast ha⟩ rfl) dy
    | _ => exact pp.elim

/-! ### statements -/
inductive Fl where
  | nx | rt (s : Sl) | bk | ct
def PostF (K : PySem.W.Frag) (W : WX) (C : Er → Addr) (B G0 G : Hp) (D : Ends) : Out Fl → Prop
  | .ok .nx r => ∀ σ G' H', EO K B G0 G' H' σ r → Same G G' → D.nx σ H'
  | .ok (.rt s) _ => s.mine = s.mine ∧ ∀ v G' H', EB B G0 G' H' → Same G G' → SlOk K B G' H' (some v) s → D.rt v H'
  | .ok .bk r => ∀ σ G' H', EO K B G0 G' H' σ r → Same G G' → D.bk σ H'
  | .ok .ct r => ∀ σ G' H', EO K B G0 G' H' σ r → Same G G' → D.ct σ H'
  | .err c r => ∀ σ G' H', EO K B G0 G' H' σ r → Same G G' → W (.ref (C c)) none σ H'
  | .bot => False
theorem PostF.up {K : PySem.W.Frag} {B G0 G G' : Hp} {D : Ends} {o : Out Fl} (h : PostF K W C B G0 G D o) (s : Same G G') : PostF K W C B G0 G' D o := by
  cases o with
  | ok f r =>
    cases f with
    | nx => exact fun σ G2 H2 e s2 => h σ G2 H2 e (s.trans s2)
    | rt z => exact ⟨rfl, fun v G2 H2 e s2 => h.2 v G2 H2 e (s.trans s2)⟩
    | bk => exact fun σ G2 H2 e s2 => h σ G2 H2 e (s.trans s2)
    | ct => exact fun σ G2 H2 e s2 => h σ G2 H2 e (s.trans s2)
  | err c r => exact fun σ G2 H2 e s2 => h σ G2 H2 e (s.trans s2)
  | bot => exact h
theorem PostF.bind {α β : Type} {R : Rl α β} {K : PySem.W.Frag} {B G0 G : Hp} {σ : St} {D : Ends} {Q : β → Hp → Prop} {o : Out α} {f : α → En → Out Fl} (h : PostF K W C B G0 G D (o.bind f))
    (hk : ∀ a r b G' H', EO K B G0 G' H' σ r → Same G G' → R K B σ G' H' r b a → PostF K W C B G0 G' D (f a r) → Q b H') : Post R K W C B G0 G σ Q o := by
  cases o with
  | ok a r => exact fun b G' H' e s hr => hk a r b G' H' e s hr (h.up s)
  | err c r => exact fun G' H' e s => h σ G' H' e s
  | bot => exact h
def SJ (X : Cx) (W : WX) (C : Er → Addr) (ts : TS) (g : En → Out Fl) : Prop := ∀ (B G0 G H : Hp) (σ : St) (r : En) (D : Ends), EO X.K B G0 G H σ r → PostF X.K W C B G0 G D (g r) → ts D σ H
structure Sd (X : Cx) (W : WX) (C : Er → Addr) (st : Stmt) (g : En → Out Fl) : Prop where
  ex : ∃ ts, PS X st ts ∧ SJ X W C ts g
structure Bd (X : Cx) (W : WX) (C : Er → Addr) (st : List Stmt) (g : En → Out Fl) : Prop where
  ex : ∃ ts, PSs X st ts ∧ SJ X W C ts g
@[simp] def gNx : En → Out Fl := fun r => .ok .nx r
@[simp] def gSeq (g h : En → Out Fl) : En → Out Fl := fun r => match g r with
  | .ok .nx r => h r
  | o => o
@[simp] def gSet (i : Nat) (t : En → Out Sl) : En → Out Fl := fun r => (t r).bind fun s r => .ok .nx (r.set i s)
@[simp] def gRet (t : En → Out Sl) : En → Out Fl := fun r => (t r).bind fun s r => .ok (.rt s) r
@[simp] def gRetV (i : Nat) : En → Out Fl := fun r => match r[i]? with
  | some .emp => .bot
  | some (.exc _ _) => .bot
  | some s => .ok (.rt s) r
  | none => .bot
@[simp] def gIf (c : En → Out Bool) (g h : En → Out Fl) : En → Out Fl := fun r => (c r).bind fun b r => if b = true then g r else h r
@[simp] def gDrop (t : En → Out PyData) : En → Out Fl := fun r => (t r).bind fun _ r => .ok .nx r
variable {st : Stmt} {sts : List Stmt} {g h : En → Out Fl}
theorem b_nil : Bd X W C [] gNx := ⟨_, pss_nil, fun B G0 G H σ r D eo p => p σ G H eo (Same.refl G)⟩
theorem b_one (hs : Sd X W C st g) : Bd X W C [st] g := by
  obtain ⟨ts, s1, s2⟩ := hs.ex
  exact ⟨_, pss_one s1, s2⟩
theorem b_cons (hs : Sd X W C st g) (hb : Bd X W C sts h) : Bd X W C (st :: sts) (gSeq g h) := by
  obtain ⟨ts, s1, s2⟩ := hs.ex
  obtain ⟨tb, b1, b2⟩ := hb.ex
  refine ⟨_, pss_cons s1 b1, fun B G0 G H σ r D eo p => s2 B G0 G H σ r _ eo ?_⟩
  unfold gSeq at p
  cases hg : g r with
  | bot => rw [hg] at p; exact p
  | err c r1 => rw [hg] at p; exact p
  | ok f r1 =>
    rw [hg] at p
    cases f with
    | nx => exact fun σ1 G1 H1 e1 s1' => b2 B G0 G1 H1 σ1 r1 D e1 (PostF.up p s1')
    | rt s => exact p
    | bk => exact p
    | ct => exact p
theorem b_never {sts : List Stmt} : Bd X W C sts (fun _ => .bot) := ⟨_, pss_never, fun B G0 G H σ r D eo p => p⟩
theorem s_never : Sd X W C st (fun _ => .bot) := ⟨_, ps_never, fun B G0 G H σ r D eo p => p⟩
theorem s_set (i : Nat) {x : Str} {pos' : Pos} {t : En → Out Sl} (hnd : X.N.Nodup) (he : Es X W C e t) (hN : X.N[i]? = some x := by rfl) (hx : Loc X.env.scope x := by first | exact Or.inl rfl | exact Or.inr rfl) (hs : swapsWith e (some (.Name x pos')) pos.line X.env = pure false := by rfl)
    (hf : X.fn x = true ∨ X.env.scope.names.lookup x = some .local := by first | exact .inl rfl | exact .inr rfl | assumption) : Sd X W C (.Assign [.Name x pos'] e pos) (gSet i t) := by
  obtain ⟨ea, a1, a2⟩ := he.ex
  refine ⟨_, ps_set (i := i) hnd hN hx a1 hs hf, fun B G0 G H σ r D eo p => a2 B G0 G H σ r _ eo ?_⟩
  exact PostF.bind (R := rS) p fun s r1 v G1 H1 e1 s1 hv q => q _ G1 H1 (e1.set i hv) (Same.refl G1)
theorem s_drop {t : En → Out PyData} (he : Ed X W C e t) (hs : swapsWith e none pos.line X.env = pure false := by rfl) : Sd X W C (.Expr e pos) (gDrop t) := by
  obtain ⟨ea, a1, a2⟩ := he.ex
  refine ⟨_, ps_expr a1 hs, fun B G0 G H σ r D eo p => a2 B G0 G H σ r _ eo ?_⟩
  exact PostF.bind (R := rD) p fun s r1 v G1 H1 e1 s1 hv q => q σ G1 H1 e1 (Same.refl G1)
theorem s_ret {t : En → Out Sl} (he : Es X W C e t) : Sd X W C (.Return (some e) pos) (gRet t) := by
  obtain ⟨ea, a1, a2⟩ := he.ex
  refine ⟨_, ps_ret a1, fun B G0 G H σ r D eo p => a2 B G0 G H σ r _ eo ?_⟩
  exact PostF.bind (R := rS) p fun s r1 v G1 H1 e1 s1 hv q => q.2 v G1 H1 e1.eb (Same.refl G1) hv.slOk
theorem s_retV (i : Nat) {x : Str} {p : Pos} (hN : X.N[i]? = some x := by rfl) (hv : Vis X.env.scope x := by first | exact Or.inl rfl | exact Or.inr (Or.inl rfl) | exact Or.inr (Or.inr rfl)) (hd : (x == ("__debug__" : Str)) = false := by decide)
    (hcd : (x == ("__classdict__" : Str)) = false := by decide) : Sd X W C (.Return (some (.Name x p)) pos) (gRetV i) := by
  refine ⟨_, ps_ret (pe_var hN hv hd hcd), fun B G0 G H σ r D eo p => ?_⟩
  unfold gRetV at p
  cases hr : r[i]? with
  | none => rw [hr] at p; exact p.elim
  | some s =>
    obtain ⟨v, h1, h2⟩ := eo.slot i _ hr
    rw [hr] at p
    cases s with
    | emp => exact p.elim
    | exc a c => exact p.elim
    | dat d =>
      obtain ⟨x, rfl, _⟩ := id h2
      exact ⟨x, h1, p.2 x G H eo.eb (Same.refl G) h2⟩
    | own l =>
      obtain ⟨q, vs, rfl, _⟩ := id h2
      exact ⟨_, h1, p.2 _ G H eo.eb (Same.refl G) h2⟩
    | dic l =>
      obtain ⟨q, vs, rfl, _⟩ := id h2
      exact ⟨_, h1, p.2 _ G H eo.eb (Same.refl G) h2⟩
theorem s_retN : Sd X W C (.Return none pos) (fun r => .ok (.rt (.dat .none)) r) :=
  ⟨_, ps_retN, fun B G0 G H σ r D eo p => p.2 .non G H eo.eb (Same.refl G) ⟨.non, rfl, .non⟩⟩
theorem s_if {c : Expr} {sa sb : List Stmt} {t : En → Out Bool} (hc : Td X W C c t) (ha : Bd X W C sa g) (hb : Bd X W C sb h) : Sd X W C (.If c sa sb pos) (gIf t g h) := by
  obtain ⟨ec, c1, c2⟩ := hc.ex
  obtain ⟨ta, a1, a2⟩ := ha.ex
  obtain ⟨tb, b1, b2⟩ := hb.ex
  refine ⟨_, ps_if c1 a1 b1, fun B G0 G H σ r D eo p => c2 B G0 G H σ r _ eo ?_⟩
  refine PostF.bind (R := rI Bool) p fun c r1 c' G1 H1 e1 s1 hc q => ?_
  cases hc
  cases c with
  | true => exact iteT (a2 B G0 G1 H1 σ r1 D e1 q)
  | false => exact iteF (b2 B G0 G1 H1 σ r1 D e1 q)
theorem s_pass : Sd X W C (.Pass pos) gNx := ⟨_, ps_pass, fun B G0 G H σ r D eo p => p σ G H eo (Same.refl G)⟩

/-! ### lists of one's own changed -/
@[simp] def gApp (i : Nat) (t : En → Out PyData) : En → Out Fl := fun r => match r[i]? with
  | some (.own _) => (t r).bind fun d r => match r[i]? with
    | some (.own l) => if l.length < sizeLine then .ok .nx (r.set i (.own (l ++ [d]))) else .bot
    | _ => .bot
  | _ => .bot
theorem s_app (i : Nat) {x : Str} {p apos cpos : Pos} {t : En → Out PyData} (ha : Ed X W C a t) (hN : X.N[i]? = some x := by rfl) (hv : Vis X.env.scope x := by first | exact Or.inl rfl | exact Or.inr (Or.inl rfl) | exact Or.inr (Or.inr rfl)) (hd : (x == ("__debug__" : Str)) = false := by decide)
    (hcd : (x == ("__classdict__" : Str)) = false := by decide) (hbase : attributeBase (.Name x p) "append" X.env (eval (.Name x p) X.env) = eval (.Name x p) X.env := by rfl)
    (hfew : ((backTo cpos (starEach (a :: []) X.env)).all (fun x => !x.1) && (backToKw cpos (keywordEach [] X.env)).all (fun x => x.1.isSome) && decide ((a :: []).length + ([] : List Keyword).length + (if ([] : List Keyword).isEmpty then 0 else 1) < 30)) = true := by rfl)
    (hline : (apos.endLine == cpos.line) = true := by rfl) (hs : starEach (a :: []) X.env = (false, eval a X.env) :: starEach [] X.env := by rfl) (hpl : (backTo cpos (starEach [] X.env)).any (·.1) = false := by rfl)
    (hsw : swapsWith (.Call (.Attribute (.Name x p) "append" apos) [a] [] cpos) none pos.line X.env = pure false := by rfl) :
    Sd X W C (.Expr (.Call (.Attribute (.Name x p) "append" apos) [a] [] cpos) pos) (gApp i t) := by
  obtain ⟨ea, a1, a2⟩ := ha.ex
  refine ⟨_, ps_expr (pe_bm PySem.F.plainAttrs_list PySem.F.slot_list_append PySem.F.type_list_append mt_append (pe_var hN hv hd hcd) (pa_cons a1 pa_nil hs) hbase hfew hline hs hpl) hsw, fun B G0 G H σ r D eo pp => ?_⟩
  unfold gApp at pp
  cases hr : r[i]? with
  | none => rw [hr] at pp; exact pp.elim
  | some s =>
    rw [hr] at pp
    cases s with
    | own l0 =>
      obtain ⟨v, h1, q, vs0, rfl, hG0, hB0, hH0, ha0⟩ := eo.slot i _ hr
      refine ⟨_, h1, tyList hH0, a2 B G0 G H σ r _ eo ?_⟩
      refine PostF.bind (R := rD) pp fun d r1 v1 G1 H1 e1 s1 hv1 q1 => ?_
      cases hr1 : r1[i]? with
      | none => rw [hr1] at q1; exact q1.elim
      | some s1' =>
        rw [hr1] at q1
        cases s1' with
        | own l =>
          obtain ⟨v2, k1, p2, vs, k2, k3, k4, k5, k6⟩ := e1.slot i _ hr1
          rw [h1] at k1
          cases k1
          cases k2
          have q2 : PostF X.K W C B G0 G1 D (if l.length < sizeLine then .ok .nx (r1.set i (.own (l ++ [d]))) else .bot) := q1
          split at q2
          · rename_i hl
            refine ⟨q, vs, v1, rfl, rfl, k5, by rw [dpAll_len k6]; exact hl, ?_⟩
            exact q2 σ G1 _ (e1.mut h1 hr1 rfl (s := .own (l ++ [d])) ⟨q, _, rfl, k3, k4, upd_same, dpAll_append k6 (.cons hv1 .nil)⟩ rfl) (Same.refl G1)
          · exact q2.elim
        | _ => exact q1.elim
    | _ => exact pp.elim
@[simp] def gRev (i : Nat) : En → Out Fl := fun r => match r[i]? with
  | some (.own l) => .ok .nx (r.set i (.own l.reverse))
  | _ => .bot
theorem s_rev (i : Nat) {x : Str} {p apos cpos : Pos} (hN : X.N[i]? = some x := by rfl) (hv : Vis X.env.scope x := by first | exact Or.inl rfl | exact Or.inr (Or.inl rfl) | exact Or.inr (Or.inr rfl)) (hd : (x == ("__debug__" : Str)) = false := by decide)
    (hcd : (x == ("__classdict__" : Str)) = false := by decide) (hbase : attributeBase (.Name x p) "reverse" X.env (eval (.Name x p) X.env) = eval (.Name x p) X.env := by rfl) (hline : (apos.endLine == cpos.line) = true := by rfl)
    (hsw : swapsWith (.Call (.Attribute (.Name x p) "reverse" apos) [] [] cpos) none pos.line X.env = pure false := by rfl) :
    Sd X W C (.Expr (.Call (.Attribute (.Name x p) "reverse" apos) [] [] cpos) pos) (gRev i) := by
  refine ⟨_, ps_expr (pe_bm0 PySem.F.plainAttrs_list PySem.F.slot_list_reverse PySem.F.type_list_reverse mt_reverse (pe_var hN hv hd hcd) hbase hline) hsw, fun B G0 G H σ r D eo pp => ?_⟩
  unfold gRev at pp
  cases hr : r[i]? with
  | none => rw [hr] at pp; exact pp.elim
  | some s =>
    rw [hr] at pp
    cases s with
    | own l =>
      obtain ⟨v, h1, q, vs, rfl, hG, hB, hH, ha⟩ := eo.slot i _ hr
      refine ⟨_, h1, tyList hH, q, vs, rfl, rfl, hH, ?_⟩
      exact pp σ G _ (eo.mut h1 hr rfl (s := .own l.reverse) ⟨q, _, rfl, hG, hB, upd_same, dpAll_reverse ha⟩ rfl) (Same.refl G)
    | _ => exact pp.elim
/-- xs.extend(e), e a new list -/
@[simp] def gExt (i : Nat) (t : En → Out Sl) : En → Out Fl := fun r => match r[i]? with
  | some (.own _) => (t r).bind fun s r => match r[i]?, s with
    | some (.own l), .own m => if l.length + m.length ≤ sizeLine then .ok .nx (r.set i (.own (l ++ m))) else .bot
    | _, _ => .bot
  | _ => .bot
theorem s_ext (i : Nat) {x : Str} {p apos cpos : Pos} {t : En → Out Sl} (ha : Es X W C a t) (hN : X.N[i]? = some x := by rfl) (hv : Vis X.env.scope x := by first | exact Or.inl rfl | exact Or.inr (Or.inl rfl) | exact Or.inr (Or.inr rfl)) (hd : (x == ("__debug__" : Str)) = false := by decide)
    (hcd : (x == ("__classdict__" : Str)) = false := by decide) (hbase : attributeBase (.Name x p) "extend" X.env (eval (.Name x p) X.env) = eval (.Name x p) X.env := by rfl)
    (hfew : ((backTo cpos (starEach (a :: []) X.env)).all (fun x => !x.1) && (backToKw cpos (keywordEach [] X.env)).all (fun x => x.1.isSome) && decide ((a :: []).length + ([] : List Keyword).length + (if ([] : List Keyword).isEmpty then 0 else 1) < 30)) = true := by rfl)
    (hline : (apos.endLine == cpos.line) = true := by rfl) (hs : starEach (a :: []) X.env = (false, eval a X.env) :: starEach [] X.env := by rfl) (hpl : (backTo cpos (starEach [] X.env)).any (·.1) = false := by rfl)
    (hsw : swapsWith (.Call (.Attribute (.Name x p) "extend" apos) [a] [] cpos) none pos.line X.env = pure false := by rfl) :
    Sd X W C (.Expr (.Call (.Attribute (.Name x p) "extend" apos) [a] [] cpos) pos) (gExt i t) := by
  obtain ⟨ea, a1, a2⟩ := ha.ex
  refine ⟨_, ps_expr (pe_bm PySem.F.plainAttrs_list PySem.F.slot_list_extend PySem.F.type_list_extend mt_extend (pe_var hN hv hd hcd) (pa_cons a1 pa_nil hs) hbase hfew hline hs hpl) hsw, fun B G0 G H σ r D eo pp => ?_⟩
  unfold gExt at pp
  cases hr : r[i]? with
  | none => rw [hr] at pp; exact pp.elim
  | some s =>
    rw [hr] at pp
    cases s with
    | own l0 =>
      obtain ⟨v, h1, q, vs0, rfl, hG0, hB0, hH0, ha0⟩ := eo.slot i _ hr
      refine ⟨_, h1, tyList hH0, a2 B G0 G H σ r _ eo ?_⟩
      refine PostF.bind (R := rS) pp fun s' r1 v1 G1 H1 e1 s1 hv1 q1 => ?_
      cases hr1 : r1[i]? with
      | none => rw [hr1] at q1; exact q1.elim
      | some s1' =>
        rw [hr1] at q1
        cases s1' with
        | own l =>
          cases s' with
          | own m =>
            obtain ⟨v2, k1, p2, vs, k2, k3, k4, k5, k6⟩ := e1.slot i _ hr1
            rw [h1] at k1
            cases k1
            cases k2
            obtain ⟨qb, zs, rfl, z1, z2, z3, z4, z5⟩ := hv1
            have q2 : PostF X.K W C B G0 G1 D (if l.length + m.length ≤ sizeLine then .ok .nx (r1.set i (.own (l ++ m))) else .bot) := q1
            split at q2
            · rename_i hl
              refine ⟨q, qb, vs, zs, rfl, rfl, k5, z3, by rw [dpAll_len k6, dpAll_len z4]; exact hl, ?_⟩
              exact q2 σ G1 _ (e1.mut h1 hr1 rfl (s := .own (l ++ m)) ⟨q, _, rfl, k3, k4, upd_same, dpAll_append k6 z4⟩ rfl) (Same.refl G1)
            · exact q2.elim
          | _ => exact q1.elim
        | _ => exact q1.elim
    | _ => exact pp.elim
/-- a name whose list of one's own is handed over for a moment (xs.extend(ys)) -/
@[simp] def gExtV (i j : Nat) : En → Out Fl := fun r => match r[i]?, r[j]? with
  | some (.own l), some (.own m) => if l.length + m.length ≤ sizeLine then .ok .nx (r.set i (.own (l ++ m))) else .bot
  | _, _ => .bot
theorem s_extV (i j : Nat) {x y : Str} {p p2 apos cpos : Pos} (hN : X.N[i]? = some x := by rfl) (hv : Vis X.env.scope x := by first | exact Or.inl rfl | exact Or.inr (Or.inl rfl) | exact Or.inr (Or.inr rfl)) (hd : (x == ("__debug__" : Str)) = false := by decide)
    (hcd : (x == ("__classdict__" : Str)) = false := by decide) (hNy : X.N[j]? = some y := by rfl) (hvy : Vis X.env.scope y := by first | exact Or.inl rfl | exact Or.inr (Or.inl rfl) | exact Or.inr (Or.inr rfl)) (hdy : (y == ("__debug__" : Str)) = false := by decide)
    (hcdy : (y == ("__classdict__" : Str)) = false := by decide) (hbase : attributeBase (.Name x p) "extend" X.env (eval (.Name x p) X.env) = eval (.Name x p) X.env := by rfl)
    (hfew : ((backTo cpos (starEach (.Name y p2 :: []) X.env)).all (fun x => !x.1) && (backToKw cpos (keywordEach [] X.env)).all (fun x => x.1.isSome) && decide ((Expr.Name y p2 :: []).length + ([] : List Keyword).length + (if ([] : List Keyword).isEmpty then 0 else 1) < 30)) = true := by rfl)
    (hline : (apos.endLine == cpos.line) = true := by rfl) (hs : starEach (.Name y p2 :: []) X.env = (false, eval (.Name y p2) X.env) :: starEach [] X.env := by rfl) (hpl : (backTo cpos (starEach [] X.env)).any (·.1) = false := by rfl)
    (hsw : swapsWith (.Call (.Attribute (.Name x p) "extend" apos) [.Name y p2] [] cpos) none pos.line X.env = pure false := by rfl) :
    Sd X W C (.Expr (.Call (.Attribute (.Name x p) "extend" apos) [.Name y p2] [] cpos) pos) (gExtV i j) := by
  refine ⟨_, ps_expr (pe_bm PySem.F.plainAttrs_list PySem.F.slot_list_extend PySem.F.type_list_extend mt_extend (pe_var hN hv hd hcd) (pa_cons (pe_var hNy hvy hdy hcdy) pa_nil hs) hbase hfew hline hs hpl) hsw, fun B G0 G H σ r D eo pp => ?_⟩
  unfold gExtV at pp
  cases hr : r[i]? with
  | none => rw [hr] at pp; exact pp.elim
  | some s =>
    cases hrj : r[j]? with
    | none => rw [hr, hrj] at pp; cases s <;> exact pp.elim
    | some s' =>
      rw [hr, hrj] at pp
      cases s with
      | own l =>
        cases s' with
        | own m =>
          obtain ⟨v, h1, q, vs, rfl, hG, hB, hH, ha⟩ := eo.slot i _ hr
          obtain ⟨v', h1', q', vs', rfl, hG', hB', hH', ha'⟩ := eo.slot j _ hrj
          have q2 : PostF X.K W C B G0 G D (if l.length + m.length ≤ sizeLine then .ok .nx (r.set i (.own (l ++ m))) else .bot) := pp
          split at q2
          · rename_i hl
            refine ⟨_, h1, tyList hH, _, h1', q, q', vs, vs', rfl, rfl, hH, hH', by rw [dpAll_len ha, dpAll_len ha']; exact hl, ?_⟩
            exact q2 σ G _ (eo.mut h1 hr rfl (s := .own (l ++ m)) ⟨q, _, rfl, hG, hB, upd_same, dpAll_append ha ha'⟩ rfl) (Same.refl G)
          · exact q2.elim
        | _ => exact pp.elim
      | _ => exact pp.elim

/-! ### while -/
def iterW (c : En → Out Bool) (g : En → Out Fl) : Nat → En → Out Fl
  | 0, _ => .bot
  | n + 1, r => (c r).bind fun b r => if b = true then (match g r with
      | .ok .nx r => iterW c g n r
      | .ok .ct r => iterW c g n r
      | .ok .bk r => .ok .nx r
      | o => o) else .ok .nx r
theorem iterW_mono (c : En → Out Bool) (g : En → Out Fl) : ∀ (n : Nat) (r : En), iterW c g n r ≠ .bot → iterW c g (n + 1) r = iterW c g n r
  | 0, r, h => absurd rfl h
  | n + 1, r, h => by
    rw [iterW] at h ⊢
    rw [iterW]
    cases hc : c r with
    | bot => rfl
    | err e r1 => rfl
    | ok b r1 =>
      rw [hc] at h
      simp only [bind_ok] at h ⊢
      cases b with
      | false => rfl
      | true =>
        simp only [if_pos] at h ⊢
        cases hg : g r1 with
        | bot => rfl
        | err e r2 => rfl
        | ok f r2 =>
          rw [hg] at h
          cases f with
          | nx => exact iterW_mono c g n r2 h
          | ct => exact iterW_mono c g n r2 h
          | bk => rfl
          | rt s => rfl
theorem iterW_le (c : En → Out Bool) (g : En → Out Fl) {n : Nat} {r : En} (h : iterW c g n r ≠ .bot) : ∀ k, iterW c g (n + k) r = iterW c g n r
  | 0 => rfl
  | k + 1 => by
    have ih := iterW_le c g h k
    rw [← Nat.add_assoc, iterW_mono c g (n + k) r (by rw [ih]; exact h), ih]
theorem iterW_eq (c : En → Out Bool) (g : En → Out Fl) {n m : Nat} {r : En} (h : iterW c g n r ≠ .bot) (k : iterW c g m r ≠ .bot) : iterW c g n r = iterW c g m r := by
  rcases Nat.le_total n m with q | q
  · obtain ⟨j, rfl⟩ := Nat.exists_eq_add_of_le q
    exact (iterW_le c g h j).symm
  · obtain ⟨j, rfl⟩ := Nat.exists_eq_add_of_le q
    exact iterW_le c g k j
open Classical in
noncomputable def gWhile (c : En → Out Bool) (g : En → Out Fl) : En → Out Fl := fun r => if h : ∃ n, iterW c g n r ≠ .bot then iterW c g (Classical.choose h) r else .bot
theorem gWhile_of {c : En → Out Bool} {g : En → Out Fl} {n : Nat} {r : En} (h : iterW c g n r ≠ .bot) : gWhile c g r = iterW c g n r := by
  have hx : ∃ n, iterW c g n r ≠ .bot := ⟨n, h⟩
  unfold gWhile
  rw [dif_pos hx]
  exact iterW_eq c g (Classical.choose_spec hx) h
theorem gWhile_unfold (c : En → Out Bool) (g : En → Out Fl) (r : En) : gWhile c g r = (c r).bind fun b r => if b = true then (match g r with
      | .ok .nx r => gWhile c g r
      | .ok .ct r => gWhile c g r
      | .ok .bk r => .ok .nx r
      | o => o) else .ok .nx r := by
  by_cases hx : ∃ n, iterW c g n r ≠ .bot
  · obtain ⟨n, hn⟩ := hx
    cases n with
    | zero => exact absurd rfl hn
    | succ n =>
      rw [gWhile_of hn]
      rw [iterW] at hn ⊢
      cases hc : c r with
      | bot => rfl
      | err e r1 => rfl
      | ok b r1 =>
        rw [hc] at hn
        simp only [bind_ok] at hn ⊢
        cases b with
        | false => rfl
        | true =>
          simp only [if_pos] at hn ⊢
          cases hg : g r1 with
          | bot => rfl
          | err e r2 => rfl
          | ok f r2 =>
            rw [hg] at hn
            cases f with
            | nx => exact (gWhile_of hn).symm
            | ct => exact (gWhile_of hn).symm
            | bk => rfl
            | rt s => rfl
  · have h0 : gWhile c g r = .bot := by
      unfold gWhile
      rw [dif_neg hx]
    rw [h0]
    have all : ∀ n, iterW c g n r = .bot := fun n => Classical.byContradiction fun z => hx ⟨n, z⟩
    cases hc : c r with
    | bot => rfl
    | err e r1 =>
      have := all 1
      rw [iterW, hc] at this
      cases this
    | ok b r1 =>
      simp only [bind_ok]
      cases b with
      | false =>
        have := all 1
        rw [iterW, hc] at this
        cases this
      | true =>
        simp only [if_pos]
        cases hg : g r1 with
        | bot => rfl
        | err e r2 =>
          have := all 1
          rw [iterW, hc, bind_ok, if_pos rfl, hg] at this
          cases this
        | ok f r2 =>
          cases f with
          | nx =>
            show Out.bot = gWhile c g r2
            unfold gWhile
            rw [dif_neg]
            rintro ⟨n, hn⟩
            have := all (n + 1)
            rw [iterW, hc, bind_ok, if_pos rfl, hg] at this
            exact hn this
          | ct =>
            show Out.bot = gWhile c g r2
            unfold gWhile
            rw [dif_neg]
            rintro ⟨n, hn⟩
            have := all (n + 1)
            rw [iterW, hc, bind_ok, if_pos rfl, hg] at this
            exact hn this
          | bk =>
            have := all 1
            rw [iterW, hc, bind_ok, if_pos rfl, hg] at this
            cases this
          | rt s =>
            have := all 1
            rw [iterW, hc, bind_ok, if_pos rfl, hg] at this
            cases this
theorem s_while {c : Expr} {t : En → Out Bool} (hp : PassesOwn (model X.prog X.w) X.A X.env X.xe) (hc : Td X W C c t) (hb : Bd X W C sts g) : Sd X W C (.While c sts [] pos) (gWhile t g) := by
  obtain ⟨ec, c1, c2⟩ := hc.ex
  obtain ⟨tb, b1, b2⟩ := hb.ex
  refine ⟨_, ps_while hp c1 b1, fun B G0 G H σ r D eo p => ?_⟩
  have hx : ∃ n, iterW t g n r ≠ .bot := by
    apply Classical.byContradiction
    intro hx
    unfold gWhile at p
    rw [dif_neg hx] at p
    exact p
  obtain ⟨n, hn⟩ := hx
  rw [gWhile_of hn] at p
  refine ⟨fun m σ' H' => ∃ G' r', EO X.K B G0 G' H' σ' r' ∧ PostF X.K W C B G0 G' D (iterW t g m r'), ⟨n, G, r, eo, p⟩, ?_⟩
  rintro m σ1 H1 ⟨G1, r1, e1, p1⟩
  cases m with
  | zero => exact p1.elim
  | succ m =>
    refine c2 B G0 G1 H1 σ1 r1 _ e1 ?_
    rw [iterW] at p1
    refine PostF.bind (R := rI Bool) p1 fun b r2 b' G2 H2 e2 s2 hb' q => ?_
    cases hb'
    cases b with
    | false => exact iteF (q σ1 G2 H2 e2 (Same.refl G2))
    | true =>
      refine iteT ⟨fun σ' H' => ∃ G' r', EO X.K B G0 G' H' σ' r' ∧ PostF X.K W C B G0 G' D (iterW t g m r'), fun σ' H' hN => ⟨m, Nat.lt_succ_self m, hN⟩, b2 B G0 G2 H2 σ1 r2 _ e2 ?_⟩
      rw [if_pos rfl] at q
      cases hg : g r2 with
      | bot => rw [hg] at q; exact q
      | err e r3 => rw [hg] at q; exact q
      | ok f r3 =>
        rw [hg] at q
        cases f with
        | nx => exact fun σ' G' H' e' s' => ⟨G', r3, e', PostF.up q s'⟩
        | ct => exact fun σ' G' H' e' s' => ⟨G', r3, e', PostF.up q s'⟩
        | bk => exact q
        | rt s => exact q
end
end GM

namespace GM
open PySem PySem.Spec L2
/-! ### what is walked -/
structure Wk (K : PySem.W.Frag) (J : It) (G : Hp) (ds : List PyData) : Prop where
  go : ∀ i H, Same G H → i < ds.length → J.go i H
  stop : ∀ i H, Same G H → ds.length ≤ i → J.stop i H
  yld : ∀ (i : Nat) (x : V) (B G0 G1 H H' : Hp) (σ : St) (r : En), EO K B G0 G1 H σ r → Same G G1 → J.yld i H x H' → i < ds.length → ∃ d G2, ds[i]? = some d ∧ EO K B G0 G2 H' σ r ∧ Same G1 G2 ∧ Dp K G2 x d ∧ ∀ a o, H a = some o → H' a = some o
def rW : Rl (List PyData) It := fun K _ _ G _ _ j ds => Wk K j G ds
structure Id (X : Cx) (W : WX) (C : Er → Addr) (tg iter : Expr) (t : En → Out (List PyData)) : Prop where
  ex : ∃ wi, PI X tg iter wi ∧ GM.J X W C rW wi t
/-- a target -/
structure Gd (X : Cx) (tg : Expr) (gt : PyData → En → Option En) (ss : List Nat) : Prop where
  ex : ∃ g, PG X tg g ∧ ∀ (B G0 G H : Hp) (σ : St) (r r' : En) (v : V) (d : PyData) (Q : St → Hp → Prop), EO X.K B G0 G H σ r → Dp X.K G v d → gt d r = some r' → (∀ σ', EO X.K B G0 G H σ' r' → (∀ vs, (∀ i ∈ ss, i ∈ vs) → wipe σ' vs = wipe σ vs) → Q σ' H) → g v σ H Q
theorem wipe_set (σ : St) (i : Nat) (x : Option V) : ∀ vs : List Nat, wipe (σ.set i x) vs = if i ∈ vs then wipe σ vs else (wipe σ vs).set i x
  | [] => by simp [wipe]
  | v :: vs => by
    rw [wipe, wipe, wipe_set σ i x vs]
    by_cases h : i ∈ vs
    · rw [if_pos h, if_pos (List.mem_cons_of_mem _ h)]
    · rw [if_neg h]
      by_cases hv : i = v
      · subst hv
        rw [if_pos List.mem_cons_self, List.set_set]
      · rw [if_neg (by simp [hv, h]), List.set_comm _ _ hv]
@[simp] def asL : PyData → Option (List PyData)
  | .list l => some l
  | _ => none
@[simp] def asT : PyData → Option (List PyData)
  | .tuple l => some l
  | _ => none
@[simp] def iLst (t : En → Out PyData) : En → Out (List PyData) := op1 asL t
@[simp] def iTup (t : En → Out PyData) : En → Out (List PyData) := op1 asT t
theorem wk_list {K : PySem.W.Frag} {G : Hp} {a : Addr} {vs : List V} {ds : List PyData} (h : SqL K G a vs) (hd : DpAll K G vs ds) : Wk K (Itl K a) G ds where
  go := fun i H s hi => by
    have hv : i < vs.length := by rw [dpAll_len hd]; exact hi
    exact ⟨vs, vs[i], s.seq h, List.getElem?_eq_getElem hv⟩
  stop := fun i H s hi => ⟨vs, s.seq h, by rw [dpAll_len hd]; exact hi⟩
  yld := fun i x B G0 G1 H H' σ r eo s y hi => by
    obtain ⟨rfl, hx⟩ := y
    obtain ⟨v, hv, dv⟩ := dpAll_get hd i _ (List.getElem?_eq_getElem hi)
    have hx' := hx vs ((s.trans eo.gh).seq h)
    rw [hv] at hx'
    cases hx'
    exact ⟨_, G1, List.getElem?_eq_getElem hi, eo, Same.refl G1, dp_same s _ _ dv, fun _ _ q => q⟩
theorem wk_tup {K : PySem.W.Frag} {G : Hp} {a : Addr} {vs : List V} {ds : List PyData} (h : SqT K G a vs) (hd : DpAll K G vs ds) : Wk K (Itt K a) G ds where
  go := fun i H s hi => by
    have hv : i < vs.length := by rw [dpAll_len hd]; exact hi
    exact ⟨vs, vs[i], same_t s h, List.getElem?_eq_getElem hv⟩
  stop := fun i H s hi => ⟨vs, same_t s h, by rw [dpAll_len hd]; exact hi⟩
  yld := fun i x B G0 G1 H H' σ r eo s y hi => by
    obtain ⟨rfl, hx⟩ := y
    obtain ⟨v, hv, dv⟩ := dpAll_get hd i _ (List.getElem?_eq_getElem hi)
    have hx' := hx vs (same_t (s.trans eo.gh) h)
    rw [hv] at hx'
    cases hx'
    exact ⟨_, G1, List.getElem?_eq_getElem hi, eo, Same.refl G1, dp_same s _ _ dv, fun _ _ q => q⟩
theorem wk_rev {K : PySem.W.Frag} {G : Hp} {a : Addr} {vs : List V} {ds : List PyData} (h : SqL K G a vs) (hd : DpAll K G vs ds) : Wk K (Itv K a vs.length) G ds.reverse where
  go := fun i H s hi => by
    rw [List.length_reverse, ← dpAll_len hd] at hi
    exact ⟨hi, vs, vs[vs.length - 1 - i], s.seq h, List.getElem?_eq_getElem (by omega)⟩
  stop := fun i H s hi => by
    rw [List.length_reverse, ← dpAll_len hd] at hi
    exact hi
  yld := fun i x B G0 G1 H H' σ r eo s y hi => by
    obtain ⟨rfl, hx⟩ := y
    have hi' : i < ds.length := by rw [List.length_reverse] at hi; exact hi
    have e : ds.reverse[i]? = ds[ds.length - 1 - i]? := List.getElem?_reverse hi'
    have hk : ds.length - 1 - i < ds.length := by omega
    obtain ⟨v, hv, dv⟩ := dpAll_get hd (ds.length - 1 - i) _ (List.getElem?_eq_getElem hk)
    have hx' := hx vs ((s.trans eo.gh).seq h)
    rw [dpAll_len hd, hv] at hx'
    cases hx'
    exact ⟨_, G1, e.trans (List.getElem?_eq_getElem hk), eo, Same.refl G1, dp_same s _ _ dv, fun _ _ q => q⟩
def rng (n : Nat) : List PyData := (List.range n).map fun (i : Nat) => .int (Int.ofNat i)
theorem wk_rng {K : PySem.W.Frag} {G : Hp} (n : Nat) : Wk K (Itr 0 n) G (rng n) where
  go := fun i H s hi => by
    simp [rng] at hi
    exact hi
  stop := fun i H s hi => by
    simp [rng] at hi
    exact hi
  yld := fun i x B G0 G1 H H' σ r eo s y hi => by
    obtain ⟨rfl, rfl⟩ := y
    have hi' : i < n := by simpa [rng] using hi
    refine ⟨.int (Int.ofNat i), G1, ?_, eo, Same.refl G1, ?_, fun _ _ q => q⟩
    · simp [rng, hi']
    · rw [Int.zero_add]
      exact .int _
section
variable {X : Cx} {W : WX} {C : Er → Addr} {pos : Pos} {e a b tg : Expr} {es : List Expr} {sts : List Stmt} {g : En → Out Fl}
theorem Post.unOp1 {α γ δ β : Type} {R : Rl α β} {R2 : Rl γ δ} {K : PySem.W.Frag} {B G0 G : Hp} {σ : St} : True := trivial
theorem i_list {t : En → Out PyData} (ha : Ed X W C a t) : Id X W C tg a (iLst t) := by
  obtain ⟨ea, a1, a2⟩ := ha.ex
  refine ⟨_, pi_list a1, ?_⟩
  refine j_op1 (R := rW) (rop := fun x H R => ∃ a, x = .ref a ∧ (∃ xs, SqL X.K H a xs) ∧ R (Itl X.K a) H) a2 fun B G0 G H σ r x d s Q eo hx hf q => ?_
  cases hx with
  | lst h1 h2 =>
    cases hf
    exact ⟨_, rfl, ⟨_, eo.gh.seq h1⟩, q _ G H eo (Same.refl G) (wk_list h1 h2)⟩
  | _ => cases hf
theorem i_tup {t : En → Out PyData} (ha : Ed X W C a t) : Id X W C tg a (iTup t) := by
  obtain ⟨ea, a1, a2⟩ := ha.ex
  refine ⟨_, pi_tup a1, ?_⟩
  refine j_op1 (R := rW) (rop := fun x H R => ∃ a, x = .ref a ∧ (∃ xs, SqT X.K H a xs) ∧ R (Itt X.K a) H) a2 fun B G0 G H σ r x d s Q eo hx hf q => ?_
  cases hx with
  | tup h1 h2 =>
    cases hf
    exact ⟨_, rfl, ⟨_, same_t eo.gh h1⟩, q _ G H eo (Same.refl G) (wk_tup h1 h2)⟩
  | _ => cases hf
@[simp] def iRevD (t : En → Out PyData) : En → Out (List PyData) := op1 (fun d => (asL d).map List.reverse) t
theorem i_rev {p : Pos} {t : En → Out PyData} (hm : X.mg "reversed" = none) (ha : Ed X W C a t) (hg : Gl X "reversed" := by rfl) (hs1 : starEach (a :: []) X.env = (false, eval a X.env) :: starEach [] X.env := by rfl) (hs : starEach [a] X.env = [(false, eval a X.env)] := by rfl) : Id X W C tg (.Call (.Name "reversed" p) [a] [] pos) (iRevD t) := by
  obtain ⟨ea, a1, a2⟩ := ha.ex
  refine ⟨_, pi_reversed hg hm (pa_cons a1 pa_nil hs1) hs, ?_⟩
  refine j_op1 (R := rW) (rop := fun x H R => ∃ (a : Addr) (xs : List V), [x] = [.ref a] ∧ SqL X.K H a xs ∧ R (Itv X.K a xs.length) H) a2 fun B G0 G H σ r x d s Q eo hx hf q => ?_
  cases hx with
  | lst h1 h2 =>
    cases hf
    exact ⟨_, _, rfl, eo.gh.seq h1, q _ G H eo (Same.refl G) (wk_rev h1 h2)⟩
  | _ => cases hf
@[simp] def rngD : PyData → Option (List PyData)
  | .int j => if -(2 ^ 62) ≤ j ∧ j < 2 ^ 62 then some (rng j.toNat) else none
  | _ => none
@[simp] def iRngD (t : En → Out PyData) : En → Out (List PyData) := op1 rngD t
theorem i_range {p : Pos} {t : En → Out PyData} (hm : X.mg "range" = none) (ha : Ed X W C a t) (hg : Gl X "range" := by rfl) (hs1 : starEach (a :: []) X.env = (false, eval a X.env) :: starEach [] X.env := by rfl) (hs : starEach [a] X.env = [(false, eval a X.env)] := by rfl) : Id X W C tg (.Call (.Name "range" p) [a] [] pos) (iRngD t) := by
  obtain ⟨ea, a1, a2⟩ := ha.ex
  refine ⟨_, pi_range1 hg hm (pa_cons a1 pa_nil hs1) hs, ?_⟩
  refine j_op1 (R := rW) (rop := fun x H R => ∃ j : Int, [x] = [.int j] ∧ -(2 ^ 62) ≤ j ∧ j < 2 ^ 62 ∧ R (L2.Itr 0 j.toNat) H) a2 fun B G0 G H σ r x d s Q eo hx hf q => ?_
  cases hx with
  | int j =>
    simp only [rngD] at hf
    split at hf
    · rename_i hc
      cases hf
      exact ⟨j, rfl, hc.1, hc.2, q _ G H eo (Same.refl G) (wk_rng _)⟩
    · cases hf
  | _ => cases hf
@[simp] def gtN (i : Nat) : PyData → En → Option En := fun d r => some (r.set i (.dat d))
theorem g_name (i : Nat) {x : Str} (hnd : X.N.Nodup) (hN : X.N[i]? = some x := by rfl) (hx : Loc X.env.scope x := by first | exact Or.inl rfl | exact Or.inr rfl) (hf : X.fn x = true ∨ X.env.scope.names.lookup x = some .local := by first | exact .inl rfl | exact .inr rfl | assumption) : Gd X (.Name x pos) (gtN i) [i] :=
  ⟨_, pg_name (i := i) hnd hN hx hf, fun B G0 G H σ r r' v d Q eo hv hr q => by
    cases hr
    exact q _ (eo.set i (s := .dat d) hv) fun vs h => by rw [wipe_set, if_pos (h i List.mem_cons_self)]⟩
/-- (x, y) = a pair -/
@[simp] def gt2 (i j : Nat) : PyData → En → Option En := fun d r => match d with
  | .tuple [x, y] => some ((r.set i (.dat x)).set j (.dat y))
  | _ => none
theorem g_two (i j : Nat) {x y : Str} {p1 p2 : Pos} {k : Nat} (hc : X.calm = true) (hnd : X.N.Nodup) (hN : X.N[i]? = some x := by rfl) (hx : Loc X.env.scope x := by first | exact Or.inl rfl | exact Or.inr rfl) (hf : X.fn x = true ∨ X.env.scope.names.lookup x = some .local := by first | exact .inl rfl | exact .inr rfl | assumption)
    (hN2 : X.N[j]? = some y := by rfl) (hx2 : Loc X.env.scope y := by first | exact Or.inl rfl | exact Or.inr rfl) (hf2 : X.fn y = true ∨ X.env.scope.names.lookup y = some .local := by first | exact .inl rfl | exact .inr rfl | assumption)
    (hs : (assignEach [.Name x p1, .Name y p2] X.env).map (·.2) = assign (.Name x p1) X.env :: (assignEach [.Name y p2] X.env).map (·.2) := by rfl) (hs2 : (assignEach [.Name y p2] X.env).map (·.2) = assign (.Name y p2) X.env :: (assignEach [] X.env).map (·.2) := by rfl)
    (hn : (assignEach [.Name x p1, .Name y p2] X.env).length = 2 := by rfl) (hst : (assignEach [.Name x p1, .Name y p2] X.env).findIdx? (·.1) = none := by rfl) : Gd X (.Tuple [.Name x p1, .Name y p2] k pos) (gt2 i j) [i, j] :=
  ⟨_, pg_tup hc (pgs_cons (pg_name (i := i) hnd hN hx hf) (pgs_cons (pg_name (i := j) hnd hN2 hx2 hf2) pgs_nil hs2) hs) hn hst, fun B G0 G H σ r r' v d Q eo hv hr q => by
    unfold gt2 at hr
    cases hv with
    | tup h1 h2 =>
      split at hr
      · rename_i heq
        cases heq
        cases hr
        cases h2 with
        | cons r1 t1 =>
          cases t1 with
          | cons r2 t2 =>
            cases t2
            exact ⟨_, _, rfl, same_t eo.gh h1, rfl, _, _, rfl, _, _, rfl, rfl, q _ ((eo.set i (s := .dat _) r1).set j (s := .dat _) r2) fun vs h => by rw [wipe_set, if_pos (h j (by simp)), wipe_set, if_pos (h i (by simp))]⟩
      · cases hr
    | _ => cases hr⟩

/-! ### for -/
@[simp] def forL (gt : PyData → En → Option En) (g : En → Out Fl) : List PyData → En → Out Fl
  | [], r => .ok .nx r
  | d :: ds, r => match gt d r with
    | none => .bot
    | some r => match g r with
      | .ok .nx r => forL gt g ds r
      | .ok .ct r => forL gt g ds r
      | .ok .bk r => .ok .nx r
      | o => o
@[simp] def gFor (t : En → Out (List PyData)) (gt : PyData → En → Option En) (g : En → Out Fl) : En → Out Fl := fun r => (t r).bind fun ds r => forL gt g ds r
theorem s_for {it : Expr} {t : En → Out (List PyData)} {gt : PyData → En → Option En} {ss : List Nat} (hp : PassesOwn (model X.prog X.w) X.A X.env X.xe) (hcm : X.calm = true) (hi : Id X W C tg it t) (hg : Gd X tg gt ss) (hb : Bd X W C sts g)
    (hs : ∀ x, foldedSetIterable it X.env x = pure x := by intro _; rfl) : Sd X W C (.For tg it sts [] pos) (gFor t gt g) := by
  obtain ⟨wi, i1, i2⟩ := hi.ex
  obtain ⟨gg, g1, g2⟩ := hg.ex
  obtain ⟨tb, b1, b2⟩ := hb.ex
  refine ⟨_, ps_for hp hcm i1 g1 b1 hs, fun B G0 G H σ r D eo p => i2 B G0 G H σ r _ eo ?_⟩
  refine PostF.bind (R := rW) p fun ds r1 J G1 H1 e1 s1 hw q => ?_
  refine ⟨fun i m σ' H' => m = ds.length - i ∧ ∃ G' r', EO X.K B G0 G' H' σ' r' ∧ Same G1 G' ∧ PostF X.K W C B G0 G' D (forL gt g (ds.drop i) r'), ⟨_, rfl, G1, r1, e1, Same.refl G1, q⟩, ?_⟩
  rintro i m σ' H' ⟨rfl, G', r', e', s', q'⟩
  have sg := s'.trans e'.gh
  by_cases hi : i < ds.length
  · refine .inr ⟨hw.go i H' sg hi, fun σ2 H2 => ∃ G' r', EO X.K B G0 G' H2 σ2 r' ∧ Same G1 G' ∧ PostF X.K W C B G0 G' D (forL gt g (ds.drop (i + 1)) r'), fun σ2 H2 h2 => ⟨ds.length - (i + 1), by omega, rfl, h2⟩, fun x H2 hy => ?_⟩
    obtain ⟨d, G2, hd, e2, s2, hx, _⟩ := hw.yld i x B G0 G' H' H2 σ' r' e' s' hy hi
    have hdr : ds.drop i = d :: ds.drop (i + 1) := by
      rw [List.getElem?_eq_getElem hi] at hd
      cases hd
      exact List.drop_eq_getElem_cons hi
    rw [hdr, forL] at q'
    cases hgt : gt d r' with
    | none => rw [hgt] at q'; exact q'.elim
    | some r2 =>
      rw [hgt] at q'
      simp only at q'
      refine g2 B G0 G2 H2 σ' r' r2 x d _ e2 hx hgt fun σ3 e3 _ => b2 B G0 G2 H2 σ3 r2 _ e3 ?_
      cases hgr : g r2 with
      | bot => rw [hgr] at q'; exact q'
      | err c r3 => rw [hgr] at q'; exact fun σ4 G4 H4 e4 s4 => q' σ4 G4 H4 e4 (s2.trans s4)
      | ok f r3 =>
        rw [hgr] at q'
        cases f with
        | nx => exact fun σ4 G4 H4 e4 s4 => ⟨G4, r3, e4, (s'.trans s2).trans s4, PostF.up q' (s2.trans s4)⟩
        | ct => exact fun σ4 G4 H4 e4 s4 => ⟨G4, r3, e4, (s'.trans s2).trans s4, PostF.up q' (s2.trans s4)⟩
        | bk => exact fun σ4 G4 H4 e4 s4 => q' σ4 G4 H4 e4 (s2.trans s4)
        | rt s => exact ⟨rfl, fun v G4 H4 e4 s4 => q'.2 v G4 H4 e4 (s2.trans s4)⟩
  · have hle : ds.length ≤ i := by omega
    refine .inl ⟨hw.stop i H' sg hle, ?_⟩
    rw [List.drop_eq_nil_of_le hle] at q'
    exact q' σ' G' H' e' (Same.refl G')

theorem forL_ok {gt : PyData → En → Option En} {g : En → Out Fl} (I : List PyData → En → Prop) (step : ∀ d ds r, I (d :: ds) r → ∃ r1 r2, gt d r = some r1 ∧ (g r1 = .ok .nx r2 ∨ g r1 = .ok .ct r2) ∧ I ds r2) : ∀ ds r, I ds r → ∃ r', forL gt g ds r = .ok .nx r' ∧ I [] r'
  | [], r, h => ⟨r, rfl, h⟩
  | d :: ds, r, h => by
    obtain ⟨r1, r2, h1, h2, h3⟩ := step d ds r h
    obtain ⟨r', h4, h5⟩ := forL_ok I step ds r2 h3
    refine ⟨r', ?_, h5⟩
    rw [forL, h1]
    rcases h2 with h2 | h2
    · simp only [h2]
      exact h4
    · simp only [h2]
      exact h4
theorem forL_okN {i : Nat} {g : En → Out Fl} (I : List PyData → En → Prop) (step : ∀ d ds r, I (d :: ds) r → ∃ r2, (g (r.set i (.dat d)) = .ok .nx r2 ∨ g (r.set i (.dat d)) = .ok .ct r2) ∧ I ds r2) (ds : List PyData) (r : En) (h : I ds r) : ∃ r', forL (gtN i) g ds r = .ok .nx r' ∧ I [] r' :=
  forL_ok I (fun d ds r h => let ⟨r2, h1, h2⟩ := step d ds r h; ⟨_, r2, rfl, h1, h2⟩) ds r h
theorem gWhile_ok {c : En → Out Bool} {g : En → Out Fl} {Q : En → Prop} (I : Nat → En → Prop) (step : ∀ n r, I n r → (∃ r1, c r = .ok false r1 ∧ Q r1) ∨ ∃ r1 r2 m, c r = .ok true r1 ∧ (g r1 = .ok .nx r2 ∨ g r1 = .ok .ct r2) ∧ m < n ∧ I m r2) : ∀ n r, I n r → ∃ r', gWhile c g r = .ok .nx r' ∧ Q r' := by
  intro n
  induction n using Nat.strongRecOn with
  | _ n ih =>
    intro r h
    rcases step n r h with ⟨r1, h1, h2⟩ | ⟨r1, r2, m, h1, h2, h3, h4⟩
    · exact ⟨r1, by rw [gWhile_unfold, h1]; rfl, h2⟩
    · obtain ⟨r', h5, h6⟩ := ih m h3 r2 h4
      refine ⟨r', ?_, h6⟩
      rw [gWhile_unfold, h1]
      rcases h2 with h2 | h2
      · simp only [bind_ok, if_pos, h2]
        exact h5
      · simp only [bind_ok, if_pos, h2]
        exact h5
section
variable {α : Type} (a b c d : α) (l : List α)
@[simp] theorem atI_c0 : atI (a :: l) 0 = some a := atI_nat (j := 0) rfl
@[simp] theorem atI_c1 : atI (a :: b :: l) 1 = some b := atI_nat (j := 1) rfl
@[simp] theorem atI_c2 : atI (a :: b :: c :: l) 2 = some c := atI_nat (j := 2) rfl
@[simp] theorem atI_c3 : atI (a :: b :: c :: d :: l) 3 = some d := atI_nat (j := 3) rfl
end
/-- a pile, its top first -/
def stk {α : Type} (f : α → PyData) (s : List α) : List PyData := (s.map f).reverse
section
variable {α : Type} {f : α → PyData} {x : α} {s t : List α}
@[simp] theorem stk_nil : stk f [] = [] := rfl
@[simp] theorem stk_len : (stk f s).length = s.length := by simp [stk]
@[simp] theorem stk_last : (stk f (x :: s)).getLast? = some (f x) := by simp [stk]
@[simp] theorem stk_drop : (stk f (x :: s)).dropLast = stk f s := by simp [stk]
theorem stk_app : stk f s ++ [f x] = stk f (x :: s) := by simp [stk]
theorem stk_apps : stk f s ++ (t.map f).reverse = stk f (t ++ s) := by simp [stk]
theorem stk_one : [f x] = stk f [x] := rfl
@[simp] theorem stk_isEmpty : (stk f s).isEmpty = s.isEmpty := by cases s <;> simp [stk]
end
/-! ### a def's body -/
def runF (N n : Nat) (g : En → Out Fl) (ds : List PyData) : Res := match g (ds.map Sl.dat ++ List.replicate (N - n) .emp) with
  | .ok (.rt s) _ => .ok s
  | .ok .nx _ => .ok (.dat .none)
  | .err c _ => .err c
  | _ => .bot
theorem eo_start {K : PySem.W.Frag} {G H : Hp} {vs : List V} {ds : List PyData} {N : List Str} (sg : Same G H) (hd : DpAll K G vs ds) : EO K H G G H (L2.start N vs) (ds.map Sl.dat ++ List.replicate (N.length - vs.length) .emp) := by
  refine ⟨Same.refl H, sg, Same.refl G, fun p hp => .inl hp, by simp [L2.start, dpAll_len hd], fun i s hs => ?_, fun i j p mi mj => ?_⟩
  · unfold L2.start
    by_cases hi : i < ds.length
    · rw [List.getElem?_append_left (by simpa using hi)] at hs
      rw [List.getElem?_map] at hs
      rw [List.getElem?_eq_getElem hi] at hs
      cases hs
      obtain ⟨v, hv, dv⟩ := dpAll_get hd i _ (List.getElem?_eq_getElem hi)
      refine ⟨some v, ?_, v, rfl, dv⟩
      rw [List.getElem?_append_left (by rw [List.length_map, dpAll_len hd]; exact hi), List.getElem?_map, hv]
      rfl
    · rw [List.getElem?_append_right (by simpa using hi)] at hs
      rw [List.length_map] at hs
      rw [List.getElem?_append_right (by rw [List.length_map, dpAll_len hd]; omega)]
      rw [List.length_map, dpAll_len hd]
      obtain ⟨h1, h2⟩ := List.getElem?_eq_some_iff.mp hs
      rw [List.length_replicate] at h1
      refine ⟨none, by
        rw [List.getElem?_replicate, if_pos]
        rw [dpAll_len hd] at h1
        exact h1, ?_⟩
      rw [List.getElem_replicate] at h2
      subst h2
      trivial
  · obtain ⟨_, s, h2, h3⟩ := mi
    exfalso
    by_cases hi : i < (ds.map Sl.dat).length
    · rw [List.getElem?_append_left hi, List.getElem?_map] at h2
      cases hd2 : ds[i]? with
      | none => rw [hd2] at h2; cases h2
      | some d => rw [hd2] at h2; cases h2; cases h3
    · rw [List.getElem?_append_right (by omega)] at h2
      obtain ⟨k1, k2⟩ := List.getElem?_eq_some_iff.mp h2
      rw [List.getElem_replicate] at k2
      subst k2
      cases h3
/-- the contexts of a body -/
abbrev WF (E : XK) : WX := fun cls d _ H => E cls d H
theorem okN {P : Program} {w : World} {K : PySem.W.Frag} {mg : Str → Option Value} {base : Heap} {x qual : Str} {st : Stmt} {f : Addr} {fd : FuncData} {N ps : List Str} {k : Nat} {sp : Sp} (F : L2.Fun K x qual st f fd) (S : FnScope N ps (defScope st)) (len : ∀ vs H Q E, sp vs H Q E → vs.length = ps.length)
    (hbody : ∀ (cdv : Value) (A : Around) (outer : List Env) (s : Shared) (H : Hp) (vs : List V) (Q : VK) (E : XK), Room k (A.deeper (PyProof.Rows.envOfC qual (defScope st) s.heap.objs.size f cdv)) → sp vs H Q E →
      ∃ t, PSs (cxOf (L2N.CX P w) P w K mg base N qual (defScope st) f cdv A outer s H E) (defBody st) t ∧ t { nx := fun _ H' => Q .non H', rt := Q } (start N vs) H) : FnOk P w K mg base (L2N.CX P w) (k + 1) f fd ps sp := by
  obtain ⟨_, _, _, _, _, _, cdv, _, _, rfl, lk, hcd⟩ := F.ex
  exact fn_of lk hcd S len fun A outer s H vs Q E hr hsp => hbody cdv A outer s H vs Q E hr hsp
theorem takesN0 {X : Cx} : L2N.Takes X (fun _ _ _ _ => False) := fun _ _ z => by
  obtain ⟨_, _, _, _, _, _, _, _, _, _, _, _, _, _, _, _, h⟩ := z
  exact h.elim
theorem fn_ok {P : Program} {w : World} {K : PySem.W.Frag} {mg : Str → Option Value} {base : Heap} {C : Er → Addr} {x : Str} {st : Stmt} {f : Addr} {fd : FuncData} {N ps : List Str} {k : Nat} {g : En → Out Fl} (F : L2.Fun K x x st f fd) (S : FnScope N ps (defScope st))
    (hbody : ∀ (cdv : Value) (A : Around) (outer : List Env) (s : Shared) (H : Hp) (E : XK), Room k (A.deeper (PyProof.Rows.envOfC x (defScope st) s.heap.objs.size f cdv)) →
      Bd (cxOf (L2N.CX P w) P w K mg base N x (defScope st) f cdv A outer s H E) (WF E) C (defBody st) g) : FnOk P w K mg base (L2N.CX P w) (k + 1) f fd ps (spD K C ps.length (runF N.length ps.length g)) := by
  refine okN F S (fun vs H Q E h => h.1) fun cdv A outer s H vs Q E hr h => ?_
  obtain ⟨hl, G, ds, sg, hd, p⟩ := h
  obtain ⟨ts, b1, b2⟩ := (hbody cdv A outer s H E hr).ex
  refine ⟨ts, b1, b2 H G G H _ _ _ (eo_start (N := N) sg hd) ?_⟩
  rw [hl]
  unfold runF at p
  have fin : ∀ {sl : Sl} {v : V} {G' H' : Hp}, EB H G G' H' → Same G G' → SlOk K H G' H' (some v) sl → (∀ v G' H', Same H H' → Same G G' → Same G' H' → (∀ p, G' p ≠ none → G p ≠ none ∨ H p = none) → SlOk K H G' H' (some v) sl → Q v H') → Q v H' :=
    fun e s hs q => q _ _ _ e.bh s e.gh e.grow hs
  cases hg : g (ds.map Sl.dat ++ List.replicate (N.length - ps.length) .emp) with
  | bot => rw [hg] at p; exact p
  | err c r => rw [hg] at p; exact fun σ G' H' e s => p H' e.bh
  | ok fl r =>
    rw [hg] at p
    cases fl with
    | nx => exact fun σ G' H' e s => fin e.eb s (sl := .dat .none) ⟨.non, rfl, .non⟩ p
    | rt sl => exact ⟨rfl, fun v G' H' e s hs => fin e s hs p⟩
    | bk => exact p.elim
    | ct => exact p.elim
theorem fn_mk {P : Program} {w : World} {K : PySem.W.Frag} {mg : Str → Option Value} {base : Heap} {C : Er → Addr} {k : Nat} {x : Str} {f : Addr} {fd : FuncData} {ps : List Str} {F : List PyData → Res} (gm : mg x = some (.ref f)) (kp : PySem.W.keepIn K (.ref f) = true) (hb : Binds K fd ps [])
    (h : FnOk P w K mg base (L2N.CX P w) k f fd ps (spD K C ps.length F)) : Fn P w K mg base C k x ps.length F := ⟨f, fd, ps, h, gm, kp, hb⟩
theorem law_sp {K : PySem.W.Frag} {C : Er → Addr} {H : Hp} {a : Addr} {ns : List Int} {F : List PyData → Res} (hS : SqL K H a (ns.map V.int)) (h : F [.list (ns.map PyData.int)] = .ok (.dat (.bool true))) : spD K C 1 F [.ref a] H (fun v _ => v = .bl true) fun _ _ _ => False := by
  refine ⟨rfl, H, [.list (ns.map PyData.int)], Same.refl H, .cons (.lst hS (dpAll_ints ns)) .nil, ?_⟩
  rw [h]
  intro v G' H' _ _ _ _ hs
  obtain ⟨x, e, d⟩ := hs
  cases e
  cases d
  rfl
theorem no_cx {P : Program} {w : World} {H : Hp} {s s' : Shared} {e : Value} (z : L2N.CX P w [] H s (fun _ _ _ => False) e s') : False := by
  obtain ⟨_, _, _, _, _, _, _, _, _, _, _, _, h⟩ := z
  exact h
end
end GM

namespace GM
open PySem PySem.Spec L2
/-- the built-in names that the module leaves alone -/
structure Bi (mg : Str → Option Value) : Prop where
  len : mg "len" = none
  isinstance : mg "isinstance" = none
  reversed : mg "reversed" = none
  range : mg "range" = none
  zip : mg "zip" = none
  bool : mg "bool" = none
  int : mg "int" = none
  str : mg "str" = none
  tuple : mg "tuple" = none
  list : mg "list" = none
  dict : mg "dict" = none
  set : mg "set" = none
theorem boot_bool : bootBuiltins "bool" = some (.type "bool") := by decide +kernel
theorem boot_int : bootBuiltins "int" = some (.type "int") := by decide +kernel
theorem boot_str : bootBuiltins "str" = some (.type "str") := by decide +kernel
theorem boot_tuple : bootBuiltins "tuple" = some (.type "tuple") := by decide +kernel
theorem boot_list : bootBuiltins "list" = some (.type "list") := by decide +kernel
theorem boot_dict : bootBuiltins "dict" = some (.type "dict") := by decide +kernel
def isiC (T : String) : Bool := (["NoneType", "bool", "int", "str", "list", "tuple", "dict"] : List String).all fun n => decide (kitB n T = some (isiT T n))
theorem isiOk_of {T : String} (h : isiC T = true) : IsiOk T := fun K n hn => kit_ty (of_decide_eq_true (List.all_eq_true.mp h n hn))
theorem isi_bool : IsiOk "bool" := isiOk_of (by decide +kernel)
theorem isi_int : IsiOk "int" := isiOk_of (by decide +kernel)
theorem isi_str : IsiOk "str" := isiOk_of (by decide +kernel)
theorem isi_tuple : IsiOk "tuple" := isiOk_of (by decide +kernel)
theorem isi_list : IsiOk "list" := isiOk_of (by decide +kernel)
theorem isi_dict : IsiOk "dict" := isiOk_of (by decide +kernel)
end GM

namespace GM
open PySem PySem.Spec L2
/-! ### the reading that a meaning itself gives -/
def canon {α β : Type} (R : Rl α β) (K : PySem.W.Frag) (W : WX) (C : Er → Addr) (t : En → Out α) : St → Hp → (β → Hp → Prop) → Prop := fun σ H Q => ∃ (B G0 G : Hp) (r : En), EO K B G0 G H σ r ∧ Post R K W C B G0 G σ Q (t r)
section
variable {X : Cx} {W : WX} {C : Er → Addr} {e : Expr}
theorem Ed.canon {t : En → Out PyData} (h : Ed X W C e t) : PE X e (canon rD X.K W C t) := by
  obtain ⟨te, h1, h2⟩ := h.ex
  refine ⟨fun pins s σ H Q I hw => ?_⟩
  obtain ⟨B, G0, G, r, eo, p⟩ := hw
  exact h1.run pins s σ H Q I (h2 B G0 G H σ r Q eo p)
/-- the tests of a comprehension -/
structure Ts (X : Cx) (W : WX) (C : Er → Addr) (ifs : List Expr) (t : En → Out Bool) : Prop where
  ex : ∃ te, PTs X ifs te ∧ J X W C (GM.rI Bool) te t
def tYesD : En → Out Bool := fun r => .ok true r
theorem ts_nil : Ts X W C [] tYesD := ⟨_, pts_nil, fun B G0 G H σ r Q eo p => p true G H eo (Same.refl G) rfl⟩
theorem ts_one {t : En → Out Bool} (h : Td X W C e t) : Ts X W C [e] t := by
  obtain ⟨te, h1, h2⟩ := h.ex
  exact ⟨_, pts_one h1, h2⟩
theorem Ts.canon {ifs : List Expr} {t : En → Out Bool} (h : Ts X W C ifs t) : PTs X ifs (canon (GM.rI Bool) X.K W C t) := by
  obtain ⟨te, h1, h2⟩ := h.ex
  refine ⟨fun pins s σ H Q I hw => ?_⟩
  obtain ⟨B, G0, G, r, eo, p⟩ := hw
  exact h1.run pins s σ H Q I (h2 B G0 G H σ r Q eo p)
def canonG (K : PySem.W.Frag) (gt : PyData → En → Option En) (ss : List Nat) : TG := fun v σ H Q => ∃ (B G0 G : Hp) (r r' : En) (d : PyData), EO K B G0 G H σ r ∧ Dp K G v d ∧ gt d r = some r' ∧ ∀ σ', EO K B G0 G H σ' r' → (∀ vs, (∀ i ∈ ss, i ∈ vs) → wipe σ' vs = wipe σ vs) → Q σ' H
theorem Gd.canon {gt : PyData → En → Option En} {ss : List Nat} (h : Gd X e gt ss) : PG X e (canonG X.K gt ss) := by
  obtain ⟨g, h1, h2⟩ := h.ex
  refine ⟨fun pins s σ H v u Q I rv hw => ?_⟩
  obtain ⟨B, G0, G, r, r', d, eo, hd, hg, q⟩ := hw
  exact h1.run pins s σ H v u Q I rv (h2 B G0 G H σ r r' v d Q eo hd hg q)
end
/-! ### slots forgotten -/
@[simp] theorem mine_exc (a : Addr) (c : Er) : (Sl.exc a c).mine = false := rfl
@[simp] theorem mine_emp : Sl.emp.mine = false := rfl
@[simp] theorem mine_dat (d : PyData) : (Sl.dat d).mine = false := rfl
@[simp] theorem mine_own (l : List PyData) : (Sl.own l).mine = true := rfl
@[simp] theorem mine_dic (l : List (Key × PyData)) : (Sl.dic l).mine = true := rfl
def wipeE (r : En) : List Nat → En
  | [] => r
  | v :: vs => (wipeE r vs).set v .emp
section
variable {K : PySem.W.Frag} {B G0 G G' H H' : Hp} {σ : St} {r : En}
theorem mineAt_forget {i j : Nat} {p : Addr} (m : MineAt (σ.set i none) (r.set i .emp) j p) : MineAt σ r j p := by
  obtain ⟨h1, s, h2, h3⟩ := m
  rcases get_set_cases h2 with ⟨_, w2, _⟩ | ⟨w1, w2⟩
  · rw [w2] at h3
    cases h3
  · rcases get_set_cases h1 with ⟨q1, _, _⟩ | ⟨_, q2⟩
    · exact absurd q1 w1
    · exact ⟨q2, s, w2, h3⟩
theorem EO.forget (e : EO K B G0 G H σ r) (i : Nat) : EO K B G0 G H (σ.set i none) (r.set i .emp) := by
  refine ⟨e.bh, e.gh, e.gg, e.grow, by simp [e.len], fun j t ht => ?_, fun j k p mj mk => e.dist j k p (mineAt_forget mj) (mineAt_forget mk)⟩
  rcases get_set_cases ht with ⟨q1, q2, q3⟩ | ⟨q1, q2⟩
  · subst q1 q2
    exact ⟨none, List.getElem?_set_self (by rw [e.len]; exact q3), trivial⟩
  · obtain ⟨w, h1, h2⟩ := e.slot j t q2
    exact ⟨w, by rw [List.getElem?_set_ne (Ne.symm q1)]; exact h1, h2⟩
theorem EO.wipe (e : EO K B G0 G H σ r) : ∀ vs : List Nat, EO K B G0 G H (L2.wipe σ vs) (wipeE r vs)
  | [] => e
  | v :: vs => (e.wipe vs).forget v
theorem wipe_get (σ : St) {i : Nat} : ∀ {vs : List Nat}, i ∉ vs → (L2.wipe σ vs)[i]? = σ[i]?
  | [], _ => rfl
  | v :: vs, h => by
    rw [L2.wipe, List.getElem?_set_ne (fun z => h (by simp [z])), wipe_get σ fun z => h (List.mem_cons_of_mem _ z)]
theorem wipeE_get (r : En) {i : Nat} : ∀ {vs : List Nat}, i ∉ vs → (wipeE r vs)[i]? = r[i]?
  | [], _ => rfl
  | v :: vs, h => by
    rw [wipeE, List.getElem?_set_ne (fun z => h (by simp [z])), wipeE_get r fun z => h (List.mem_cons_of_mem _ z)]
/-- what was forgotten (no list of one's own among it) is known again -/
theorem EO.unwipe {σ2 : St} {r2 : En} {vs : List Nat} (e : EO K B G0 G H σ r) (e2 : EO K B G0 G' H' σ2 r2) (sg : Same G G') (hσ : L2.wipe σ2 vs = L2.wipe σ vs) (hr : wipeE r2 vs = wipeE r vs) (hm : ∀ v ∈ vs, ∀ s, r[v]? = some s → s.mine = false) : EO K B G0 G' H' σ r := by
  have e3 : EO K B G0 G' H' (L2.wipe σ vs) (wipeE r vs) := by
    have := e2.wipe vs
    rw [hσ, hr] at this
    exact this
  have mv : ∀ i p, MineAt σ r i p → MineAt (L2.wipe σ vs) (wipeE r vs) i p := fun i p ⟨h1, s, h2, h3⟩ => by
    have hi : i ∉ vs := fun z => by
      rw [hm i z s h2] at h3
      cases h3
    exact ⟨by rw [wipe_get σ hi]; exact h1, s, by rw [wipeE_get r hi]; exact h2, h3⟩
  refine ⟨e3.bh, e3.gh, e3.gg, e3.grow, e.len, fun i s hs => ?_, fun i j p mi mj => e3.dist i j p (mv i p mi) (mv j p mj)⟩
  by_cases hi : i ∈ vs
  · obtain ⟨v, h1, h2⟩ := e.slot i s hs
    have hmi := hm i hi s hs
    exact ⟨v, h1, h2.mono sg fun p _ z => by rw [hmi] at z; cases z⟩
  · obtain ⟨v, h1, h2⟩ := e3.slot i s (by rw [wipeE_get r hi]; exact hs)
    exact ⟨v, by rw [wipe_get σ hi] at h1; exact h1, h2⟩
/-- an object that is nobody's slot is kept by whatever is asked -/
theorem EO.guard (e : EO K B G0 G H σ r) {p : Addr} {o : HO} (hH : H p = some o) (hG : G p = none) (hB : B p = none) (n : ∀ i, ¬ MineAt σ r i p) : EO K (upd B p o) G0 G H σ r := by
  refine ⟨fun b x hb => ?_, e.gh, e.gg, fun q hq => ?_, e.len, fun i s hs => ?_, e.dist⟩
  · by_cases hbp : b = p
    · subst hbp
      rw [upd_same] at hb
      cases hb
      exact hH
    · rw [upd_ne hbp] at hb
      exact e.bh b x hb
  · have hqp : q ≠ p := fun z => hq (z ▸ hG)
    rw [upd_ne hqp]
    exact e.grow q hq
  · obtain ⟨v, h1, h2⟩ := e.slot i s hs
    refine ⟨v, h1, ?_⟩
    cases s with
    | emp => trivial
    | exc a c => exact h2
    | dat d => exact h2
    | own l =>
      obtain ⟨q, vs, e1, e2, e3, e4, e5⟩ := h2
      have hqp : q ≠ p := fun z => n i ⟨by rw [h1, e1, z], _, hs, rfl⟩
      exact ⟨q, vs, e1, e2, by rw [upd_ne hqp]; exact e3, e4, e5⟩
    | dic l =>
      obtain ⟨q, vs, e1, e2, e3, e4, e5⟩ := h2
      have hqp : q ≠ p := fun z => n i ⟨by rw [h1, e1, z], _, hs, rfl⟩
      exact ⟨q, vs, e1, e2, by rw [upd_ne hqp]; exact e3, e4, e5⟩
theorem EO.unguard {p : Addr} {o : HO} (e : EO K (upd B p o) G0 G H σ r) (hB : B p = none) (hG0 : G0 p = none) : EO K B G0 G H σ r ∧ H p = some o ∧ G p = none ∧ ∀ i, ¬ MineAt σ r i p := by
  have back : ∀ q, upd B p o q = none → B q = none := fun q h => by
    by_cases hqp : q = p
    · rw [hqp]; exact hB
    · rw [upd_ne hqp] at h
      exact h
  refine ⟨⟨fun b x hb => ?_, e.gh, e.gg, fun q hq => (e.grow q hq).imp id (back q), e.len, fun i s hs => ?_, e.dist⟩, e.bh _ _ upd_same, ?_, fun i m => ?_⟩
  · have hbp : b ≠ p := fun z => by rw [z, hB] at hb; cases hb
    exact e.bh b x (by rw [upd_ne hbp]; exact hb)
  · obtain ⟨v, h1, h2⟩ := e.slot i s hs
    refine ⟨v, h1, ?_⟩
    cases s with
    | emp => trivial
    | exc a c => exact h2
    | dat d => exact h2
    | own l =>
      obtain ⟨q, vs, e1, e2, e3, e4, e5⟩ := h2
      exact ⟨q, vs, e1, e2, back q e3, e4, e5⟩
    | dic l =>
      obtain ⟨q, vs, e1, e2, e3, e4, e5⟩ := h2
      exact ⟨q, vs, e1, e2, back q e3, e4, e5⟩
  · cases hq : G p with
    | none => rfl
    | some u =>
      rcases e.grow p (by rw [hq]; exact fun z => nomatch z) with h | h
      · exact absurd hG0 h
      · rw [upd_same] at h
        cases h
  · obtain ⟨_, h, _⟩ := e.mine m
    rw [upd_same] at h
    cases h
/-- that object is changed -/
theorem EO.other (e : EO K B G0 G H σ r) {p : Addr} {o : HO} (hG : G p = none) (hB : B p = none) (n : ∀ i, ¬ MineAt σ r i p) : EO K B G0 G (upd H p o) σ r :=
  e.step (same_mut e.bh hB) (Same.refl G) (same_mut e.gh hG) (fun q hq => .inl hq) fun i q m => upd_ne fun z => n i (z ▸ m)
end
/-! ### [elt for tg in iter if ..] -/
open Classical in
noncomputable def lcL (gt : PyData → En → Option En) (tt : En → Out Bool) (te : En → Out PyData) (vs : List Nat) (rw' : En) : List PyData → Option (List PyData)
  | [] => some []
  | d :: ds => match gt d rw' with
    | none => none
    | some r1 => match tt r1 with
      | .ok true r2 => (match te r2 with
        | .ok y r3 => if wipeE r3 vs = rw' then (lcL gt tt te vs rw' ds).map (y :: ·) else none
        | _ => none)
      | .ok false r2 => if wipeE r2 vs = rw' then lcL gt tt te vs rw' ds else none
      | _ => none
noncomputable def dLc (t : En → Out (List PyData)) (gt : PyData → En → Option En) (tt : En → Out Bool) (te : En → Out PyData) (vs : List Nat) : En → Out Sl := fun r => (t r).bind fun ds r =>
  if (vs.all fun v => !(r.getD v .emp).mine) = true ∧ ds.length ≤ sizeLine then (match lcL gt tt te vs (wipeE r vs) ds with
    | some ys => .ok (.own ys) r
    | none => .bot) else .bot
section
variable {X : Cx} {W : WX} {C : Er → Addr} {pos : Pos} {elt tg iter : Expr} {ifs : List Expr}
theorem lc_read {vs : List Nat} {ss : List Nat} {t : En → Out (List PyData)} {gt : PyData → En → Option En} {tt : En → Out Bool} {te : En → Out PyData} {wi : TI} (hsub : ∀ i ∈ ss, i ∈ vs) (i2 : GM.J X W C rW wi t) :
    J X W C rS (tLc wi (canonG X.K gt ss) (canon (GM.rI Bool) X.K (fun _ _ _ _ => False) C tt) (canon rD X.K (fun _ _ _ _ => False) C te) vs) (dLc t gt tt te vs) := by
  intro B G0 G H σ r Q eo p
  refine i2 B G0 G H σ r _ eo ?_
  refine Post.bind (R2 := rS) p fun ds r1 J G1 H1 e1 s1 hw q D hD => ?_
  have q0 : Post rS X.K W C B G0 G1 σ Q (if (vs.all fun v => !(r1.getD v .emp).mine) = true ∧ ds.length ≤ sizeLine then (match lcL gt tt te vs (wipeE r1 vs) ds with | some ys => .ok (.own ys) r1 | none => .bot) else .bot) := q
  by_cases hc : (vs.all fun v => !(r1.getD v .emp).mine) = true ∧ ds.length ≤ sizeLine
  · rw [if_pos hc] at q0
    have hmv : ∀ v ∈ vs, ∀ s, r1[v]? = some s → s.mine = false := fun v hv s hs => by
      have := List.all_eq_true.mp hc.1 v hv
      simp [List.getD, hs] at this
      exact this
    cases hl : lcL gt tt te vs (wipeE r1 vs) ds with
    | none => rw [hl] at q0; exact q0.elim
    | some total =>
      rw [hl] at q0
      have hD0 : B D = none := e1.bh.free hD
      have hDG : G1 D = none := e1.gh.free hD
      refine ⟨fun i m H' => m = ds.length - i ∧ ∃ G' acc accV rest, EO X.K B G0 G' H' σ r1 ∧ Same G1 G' ∧ H' D = some (.lst accV) ∧ DpAll X.K G' accV acc ∧ G' D = none ∧ (∀ i, ¬ MineAt σ r1 i D) ∧ acc.length ≤ i ∧ lcL gt tt te vs (wipeE r1 vs) (ds.drop i) = some rest ∧ acc ++ rest = total,
        ⟨_, rfl, G1, [], [], total, e1.newOwn hD, Same.refl G1, upd_same, .nil, hDG, fun i m => e1.notMine hD i m, Nat.le_refl _, hl, rfl⟩, ?_⟩
      rintro i m H' ⟨rfl, G', acc, accV, rest, e', sg', hDv, hda, hDG', hnm, hle, hrest, htot⟩
      by_cases hi : i < ds.length
      · refine .inr ⟨hw.go i H' (sg'.trans e'.gh) hi, fun H2 => ∃ G2 acc2 accV2 rest2, EO X.K B G0 G2 H2 σ r1 ∧ Same G1 G2 ∧ H2 D = some (.lst accV2) ∧ DpAll X.K G2 accV2 acc2 ∧ G2 D = none ∧ (∀ i, ¬ MineAt σ r1 i D) ∧ acc2.length ≤ i + 1 ∧ lcL gt tt te vs (wipeE r1 vs) (ds.drop (i + 1)) = some rest2 ∧ acc2 ++ rest2 = total,
          fun H2 h2 => ⟨ds.length - (i + 1), by omega, rfl, h2⟩, fun x H2 hy => ?_⟩
        have eg := e'.guard hDv hDG' hD0 hnm
        obtain ⟨d, G2, hd, e2, s2, hx, _⟩ := hw.yld i x _ G0 G' H' H2 σ r1 eg sg' hy hi
        have hdr : ds.drop i = d :: ds.drop (i + 1) := by
          rw [List.getElem?_eq_getElem hi] at hd
          cases hd
          exact List.drop_eq_getElem_cons hi
        rw [hdr, lcL] at hrest
        cases hgt : gt d (wipeE r1 vs) with
        | none => rw [hgt] at hrest; cases hrest
        | some r2 =>
          rw [hgt] at hrest
          simp only at hrest
          have hG00 : G0 D = none := by
            cases hq : G0 D with
            | none => rfl
            | some u =>
              have := e'.gg D u hq
              rw [hDG'] at this
              cases this
          have fin : ∀ {G3 H3 : Hp} {σ3 : St} {r3 : En}, EO X.K (upd B D (.lst accV)) G0 G3 H3 σ3 r3 → Same G2 G3 → L2.wipe σ3 vs = L2.wipe σ vs → wipeE r3 vs = wipeE r1 vs →
              EO X.K (upd B D (.lst accV)) G0 G3 H3 σ r1 := fun e3 sg3 hs3 hr3 => e2.unwipe e3 sg3 hs3 hr3 hmv
          refine ⟨_, G0, G2, wipeE r1 vs, r2, d, e2.wipe vs, hx, hgt, fun σ3 e3 hσ => ?_⟩
          have hσ3 : L2.wipe σ3 vs = L2.wipe σ vs := by
            rw [hσ vs hsub]
            have : ∀ us : List Nat, (∀ u ∈ us, u ∈ vs) → L2.wipe (L2.wipe σ us) vs = L2.wipe σ vs := by
              intro us
              induction us with
              | nil => intro _; rfl
              | cons u us ih =>
                intro hu
                rw [L2.wipe, wipe_set, if_pos (hu u List.mem_cons_self), ih fun w hw => hu w (List.mem_cons_of_mem _ hw)]
            exact this vs fun _ h => h
          refine ⟨hσ3, _, G0, G2, r2, e3, ?_⟩
          cases htt : tt r2 with
          | err c r3 => rw [htt] at hrest; cases hrest
          | bot => rw [htt] at hrest; cases hrest
          | ok b r3 =>
            rw [htt] at hrest
            intro b' G3 H3 e4 s4 hb
            cases hb
            cases b with
            | false =>
              refine iteF ?_
              simp only at hrest
              split at hrest
              · rename_i hwe
                have e5 := fin e4 s4 hσ3 hwe
                obtain ⟨e6, h6, h7, h8⟩ := e5.unguard hD0 hG00
                exact ⟨G3, acc, accV, rest, e6, (sg'.trans s2).trans s4, h6, dpAll_same (s2.trans s4) _ _ hda, h7, h8, by omega, hrest, htot⟩
              · cases hrest
            | true =>
              refine iteT ⟨_, G0, G3, r3, e4, ?_⟩
              simp only at hrest
              cases hte : te r3 with
              | err c r4 => rw [hte] at hrest; cases hrest
              | bot => rw [hte] at hrest; cases hrest
              | ok y r4 =>
                rw [hte] at hrest
                simp only at hrest
                intro yv G4 H4 e7 s7 hyv
                split at hrest
                · rename_i hwe
                  cases hrec : lcL gt tt te vs (wipeE r1 vs) (ds.drop (i + 1)) with
                  | none => rw [hrec] at hrest; cases hrest
                  | some rest2 =>
                    rw [hrec] at hrest
                    cases hrest
                    have e8 := fin e7 (s4.trans s7) hσ3 hwe
                    obtain ⟨e9, h6, h7, h8⟩ := e8.unguard hD0 hG00
                    have hda4 := dpAll_same ((s2.trans s4).trans s7) _ _ hda
                    refine ⟨accV, h6, ?_, G4, acc ++ [y], accV ++ [yv], rest2, e9.other h7 hD0 h8, ((sg'.trans s2).trans s4).trans s7, upd_same, dpAll_append hda4 (.cons hyv .nil), h7, h8, by simp; omega, rfl, by simpa using htot⟩
                    rw [dpAll_len hda4]
                    omega
                · cases hrest
      · have hle2 : ds.length ≤ i := by omega
        rw [List.drop_eq_nil_of_le hle2] at hrest
        cases hrest
        rw [List.append_nil] at htot
        subst htot
        refine .inl ⟨hw.stop i H' (sg'.trans e'.gh) hle2, ?_⟩
        exact q0 (.ref D) G' H' e' sg' ⟨D, accV, rfl, hDG', hD0, hDv, hda, hnm⟩
  · rw [if_neg hc] at q0
    exact q0.elim
theorem s_lc {scope : Scope} {own : List (Str × Nat)} {ss : List Nat} {t : En → Out (List PyData)} {gt : PyData → En → Option En} {tt : En → Out Bool} {te : En → Out PyData} (hc : X.calm = true) (hN : X.N.Nodup) (hi : Id X W C tg iter t) (ok : BlkOk X.N X.env.scope scope own)
    (hg : ∀ (s : Shared) (H : Hp) (a : Addr) (cl : List (Str × Addr)) (fp : List Addr), Gd (X.blk s H scope (compEnvC scope cl a X.env) fp) tg gt ss) (ht : ∀ (s : Shared) (H : Hp) (a : Addr) (cl : List (Str × Addr)) (fp : List Addr), Ts (X.blk s H scope (compEnvC scope cl a X.env) fp) (fun _ _ _ _ => False) C ifs tt)
    (he : ∀ (s : Shared) (H : Hp) (a : Addr) (cl : List (Str × Addr)) (fp : List Addr), Ed (X.blk s H scope (compEnvC scope cl a X.env) fp) (fun _ _ _ _ => False) C elt te) (hsub : ∀ i ∈ ss, i ∈ own.map (·.2) := by decide) (hs : ∀ x, foldedSetIterable iter X.env x = pure x := by intro _; rfl) :
    Es X W C (.ListComp elt [⟨tg, iter, ifs, 0⟩] scope pos) (dLc t gt tt te (own.map (·.2))) := by
  obtain ⟨wi, i1, i2⟩ := hi.ex
  exact ⟨_, pe_lc hc hN i1 ok (fun s H a cl fp => (hg s H a cl fp).canon) (fun s H a cl fp => (ht s H a cl fp).canon) (fun s H a cl fp => (he s H a cl fp).canon) hs, lc_read hsub i2⟩
theorem s_setLc (i : Nat) {y : Str} {py spos : Pos} {scope : Scope} {own : List (Str × Nat)} {ss : List Nat} {t : En → Out (List PyData)} {gt : PyData → En → Option En} {tt : En → Out Bool} {te : En → Out PyData} (hc : X.calm = true) (hN : X.N.Nodup)
    (hsw : swapsWith (.ListComp elt [⟨tg, iter, ifs, 0⟩] scope pos) (some (.Name y py)) spos.line X.env = pure true) (hi : Id X W C tg iter t) (ok : BlkOk X.N X.env.scope scope own)
    (hg : ∀ (s : Shared) (H : Hp) (a : Addr) (cl : List (Str × Addr)) (fp : List Addr), Gd (X.blk s H scope (compEnvC scope cl a X.env) fp) tg gt ss) (ht : ∀ (s : Shared) (H : Hp) (a : Addr) (cl : List (Str × Addr)) (fp : List Addr), Ts (X.blk s H scope (compEnvC scope cl a X.env) fp) (fun _ _ _ _ => False) C ifs tt)
    (he : ∀ (s : Shared) (H : Hp) (a : Addr) (cl : List (Str × Addr)) (fp : List Addr), Ed (X.blk s H scope (compEnvC scope cl a X.env) fp) (fun _ _ _ _ => False) C elt te) (hy : X.N[i]? = some y := by rfl) (hyl : X.env.scope.names.lookup y = some .local := by rfl) (hsub : ∀ i ∈ ss, i ∈ own.map (·.2) := by decide) (hs : ∀ x, foldedSetIterable iter X.env x = pure x := by intro _; rfl) :
    Sd X W C (.Assign [.Name y py] (.ListComp elt [⟨tg, iter, ifs, 0⟩] scope pos) spos) (gSet i (dLc t gt tt te (own.map (·.2)))) := by
  obtain ⟨wi, i1, i2⟩ := hi.ex
  refine ⟨_, ps_setLc (i := i) hc hN hy hyl hsw i1 ok (fun s H a cl fp => (hg s H a cl fp).canon) (fun s H a cl fp => (ht s H a cl fp).canon) (fun s H a cl fp => (he s H a cl fp).canon) hs, fun B G0 G H σ r D eo p => lc_read hsub i2 B G0 G H σ r _ eo ?_⟩
  exact PostF.bind (R := rS) p fun s r1 v G1 H1 e1 s1 hv q => q _ G1 H1 (e1.set i hv) (Same.refl G1)
end
end GM

namespace GM
open PySem PySem.Spec L2
section
variable {X : Cx} {W : WX} {C : Er → Addr} {pos : Pos} {e a b tg : Expr}
/-! ### int(x), list(xs), zip -/
def fInt : PyData → Option PyData
  | .int i => some (.int i)
  | .bool c => some (.int (if c then 1 else 0))
  | _ => none
@[simp] theorem fInt_i (i : Int) : fInt (.int i) = some (.int i) := rfl
@[simp] theorem fInt_b (c : Bool) : fInt (.bool c) = some (.int (if c then 1 else 0)) := rfl
theorem d_toInt {p : Pos} {t : En → Out PyData} (hm : X.mg "int" = none) (ha : Ed X W C a t) (hg : Gl X "int" := by rfl) (hs : starEach (a :: []) X.env = (false, eval a X.env) :: starEach [] X.env := by rfl) (hpl : (backTo pos (starEach [] X.env)).any (·.1) = false := by rfl) :
    Ed X W C (.Call (.Name "int" p) [a] [] pos) (op1 fInt t) := by
  obtain ⟨ea, a1, a2⟩ := ha.ex
  refine ⟨_, pe_callTy call_int1 hg hm PyProof.Rows.boot_int (pa_cons a1 pa_nil hs) (he := hs) (hpl := hpl), fun B G0 G H σ r Q eo p => ?_⟩
  refine j_op1 (R := rD) (rop := fun x H Q => (∃ i, [x] = [.int i] ∧ Q (.int i) H) ∨ ∃ k, [x] = [.bl k] ∧ Q (.int (if k then 1 else 0)) H) a2 (fun B G0 G H σ r x d s Q eo hx hf q => ?_) B G0 G H σ r Q eo p
  cases hx with
  | int i =>
    cases hf
    exact .inl ⟨i, rfl, q _ G H eo (Same.refl G) (.int _)⟩
  | bl c =>
    cases hf
    exact .inr ⟨c, rfl, q _ G H eo (Same.refl G) (.int _)⟩
  | _ => cases hf
def fList : PyData → Option Sl
  | .list l => some (.own l)
  | .tuple l => some (.own l)
  | _ => none
@[simp] theorem fList_l (l : List PyData) : fList (.list l) = some (.own l) := rfl
@[simp] theorem fList_t (l : List PyData) : fList (.tuple l) = some (.own l) := rfl
theorem s_list {p : Pos} {t : En → Out PyData} (hm : X.mg "list" = none) (ha : Ed X W C a t) (hg : Gl X "list" := by rfl) (hs : starEach (a :: []) X.env = (false, eval a X.env) :: starEach [] X.env := by rfl) (hpl : (backTo pos (starEach [] X.env)).any (·.1) = false := by rfl) :
    Es X W C (.Call (.Name "list" p) [a] [] pos) (op1 fList t) := by
  obtain ⟨ea, a1, a2⟩ := ha.ex
  refine ⟨_, pe_callTy call_list_of hg hm boot_list (pa_cons a1 pa_nil hs) (he := hs) (hpl := hpl), fun B G0 G H σ r Q eo p => ?_⟩
  refine j_op1 (R := rS) (rop := fun x H Q => ∃ p ys, [x] = [.ref p] ∧ (SqL X.K H p ys ∨ SqT X.K H p ys) ∧ ∀ l, H l = none → Q (.ref l) (upd H l (.lst ys))) a2 (fun B G0 G H σ r x d s Q eo hx hf q => ?_) B G0 G H σ r Q eo p
  cases hx with
  | lst h1 h2 =>
    cases hf
    exact ⟨_, _, rfl, .inl (eo.gh.seq h1), fun l hl => q _ G _ (eo.newOwn hl) (Same.refl G) (eo.vOwn hl h2)⟩
  | tup h1 h2 =>
    cases hf
    exact ⟨_, _, rfl, .inr (same_t eo.gh h1), fun l hl => q _ G _ (eo.newOwn hl) (Same.refl G) (eo.vOwn hl h2)⟩
  | _ => cases hf
def zipP (xs ys : List PyData) : List PyData := (xs.zip ys).map fun p => .tuple [p.1, p.2]
theorem wk_zip {K : PySem.W.Frag} {G : Hp} {a b : Addr} {vs us : List V} {ds es : List PyData} (h : SqL K G a vs) (hd : DpAll K G vs ds) (k : SqL K G b us) (hk : DpAll K G us es) : Wk K (Itz K a b) G (zipP ds es) where
  go := fun i H s hi => by
    simp [zipP] at hi
    have hv : i < vs.length := by rw [dpAll_len hd]; omega
    have hu : i < us.length := by rw [dpAll_len hk]; omega
    exact ⟨vs, us, vs[i], us[i], s.seq h, s.seq k, List.getElem?_eq_getElem hv, List.getElem?_eq_getElem hu⟩
  stop := fun i H s hi => by
    simp [zipP] at hi
    have l1 := dpAll_len hd
    have l2 := dpAll_len hk
    exact ⟨vs, us, s.seq h, s.seq k, by omega⟩
  yld := fun i x B G0 G1 H H' σ r eo s y hi => by
    simp [zipP] at hi
    obtain ⟨T, x1, x2, rfl, hT, rfl, f1, f2⟩ := y
    have h1 : i < ds.length := by omega
    have h2 : i < es.length := by omega
    obtain ⟨v, hv, dv⟩ := dpAll_get hd i _ (List.getElem?_eq_getElem h1)
    obtain ⟨u, hu, du⟩ := dpAll_get hk i _ (List.getElem?_eq_getElem h2)
    have e1 := f1 vs ((s.trans eo.gh).seq h)
    have e2 := f2 us ((s.trans eo.gh).seq k)
    rw [hv] at e1
    rw [hu] at e2
    cases e1
    cases e2
    have hG := eo.gh.free hT
    have sg : Same G1 (upd G1 T (.tup [x1, x2])) := same_upd hG
    refine ⟨.tuple [ds[i], es[i]], _, ?_, eo.newDat hT, sg, .tup (SqT.of upd_same) (.cons (dp_same (s.trans sg) _ _ dv) (.cons (dp_same (s.trans sg) _ _ du) .nil)), fun b o q => ?_⟩
    · simp only [zipP, List.getElem?_map]
      rw [List.getElem?_eq_getElem (by rw [List.length_zip]; omega), List.getElem_zip]
      rfl
    · rw [upd_ne (ne_of_none q hT)]
      exact q
def fZip : PyData → PyData → Option (List PyData)
  | .list xs, .list ys => some (zipP xs ys)
  | _, _ => none
@[simp] theorem fZip_l (xs ys : List PyData) : fZip (.list xs) (.list ys) = some (zipP xs ys) := rfl
@[simp] def iZip (t u : En → Out PyData) : En → Out (List PyData) := op2 fZip t u
theorem i_zip {elts : List Expr} {kk : Nat} {tpos p : Pos} {t u : En → Out PyData} (hm : X.mg "zip" = none) (ha : Ed X W C a t) (hb : Ed X W C b u) (hg : Gl X "zip" := by rfl) (hs1 : starEach (a :: [b]) X.env = (false, eval a X.env) :: starEach [b] X.env := by rfl) (hs2 : starEach (b :: []) X.env = (false, eval b X.env) :: starEach [] X.env := by rfl)
    (hs : starEach [a, b] X.env = (false, eval a X.env) :: starEach [b] X.env := by rfl) (hpl : (backTo pos (starEach [b] X.env)).any (·.1) = false := by rfl) : Id X W C (.Tuple elts kk tpos) (.Call (.Name "zip" p) [a, b] [] pos) (iZip t u) := by
  obtain ⟨ea, a1, a2⟩ := ha.ex
  obtain ⟨eb, b1, b2⟩ := hb.ex
  refine ⟨_, pi_zip hg hm (pa_cons a1 (pa_cons b1 pa_nil hs2) hs1) hs hpl, ?_⟩
  refine j_op2 (R := rW) (rop := fun x y H R => ∃ a b xs ys, [x, y] = [.ref a, .ref b] ∧ SqL X.K H a xs ∧ SqL X.K H b ys ∧ R (Itz X.K a b) H) a2 b2 fun B G0 G H σ r x y d e s Q eo hx hy hf q => ?_
  cases hx with
  | lst h1 h2 =>
    cases hy with
    | lst k1 k2 =>
      cases hf
      exact ⟨_, _, _, _, rfl, eo.gh.seq h1, eo.gh.seq k1, q _ G H eo (Same.refl G) (wk_zip h1 h2 k1 k2)⟩
    | _ => cases hf
  | _ => cases hy <;> cases hf
end
end GM

namespace GM
open PySem PySem.Spec L2
/-! ### the words of the forms, apart -/
@[simp] theorem ne_sign_any : (Str.ofString "sign" = Str.ofString "any") = False := eq_false (by decide +kernel)
@[simp] theorem ne_sign_none : (Str.ofString "sign" = Str.ofString "none") = False := eq_false (by decide +kernel)
@[simp] theorem ne_sign_row : (Str.ofString "sign" = Str.ofString "row") = False := eq_false (by decide +kernel)
@[simp] theorem ne_sign_or : (Str.ofString "sign" = Str.ofString "or") = False := eq_false (by decide +kernel)
@[simp] theorem ne_sign_more : (Str.ofString "sign" = Str.ofString "more") = False := eq_false (by decide +kernel)
@[simp] theorem ne_sign_less : (Str.ofString "sign" = Str.ofString "less") = False := eq_false (by decide +kernel)
@[simp] theorem ne_sign_group : (Str.ofString "sign" = Str.ofString "group") = False := eq_false (by decide +kernel)
@[simp] theorem ne_sign_close : (Str.ofString "sign" = Str.ofString "close") = False := eq_false (by decide +kernel)
@[simp] theorem ne_any_sign : (Str.ofString "any" = Str.ofString "sign") = False := eq_false (by decide +kernel)
@[simp] theorem ne_any_none : (Str.ofString "any" = Str.ofString "none") = False := eq_false (by decide +kernel)
@[simp] theorem ne_any_row : (Str.ofString "any" = Str.ofString "row") = False := eq_false (by decide +kernel)
@[simp] theorem ne_any_or : (Str.ofString "any" = Str.ofString "or") = False := eq_false (by decide +kernel)
@[simp] theorem ne_any_more : (Str.ofString "any" = Str.ofString "more") = False := eq_false (by decide +kernel)
@[simp] theorem ne_any_less : (Str.ofString "any" = Str.ofString "less") = False := eq_false (by decide +kernel)
@[simp] theorem ne_any_group : (Str.ofString "any" = Str.ofString "group") = False := eq_false (by decide +kernel)
@[simp] theorem ne_any_close : (Str.ofString "any" = Str.ofString "close") = False := eq_false (by decide +kernel)
@[simp] theorem ne_none_sign : (Str.ofString "none" = Str.ofString "sign") = False := eq_false (by decide +kernel)
@[simp] theorem ne_none_any : (Str.ofString "none" = Str.ofString "any") = False := eq_false (by decide +kernel)
@[simp] theorem ne_none_row : (Str.ofString "none" = Str.ofString "row") = False := eq_false (by decide +kernel)
@[simp] theorem ne_none_or : (Str.ofString "none" = Str.ofString "or") = False := eq_false (by decide +kernel)
@[simp] theorem ne_none_more : (Str.ofString "none" = Str.ofString "more") = False := eq_false (by decide +kernel)
@[simp] theorem ne_none_less : (Str.ofString "none" = Str.ofString "less") = False := eq_false (by decide +kernel)
@[simp] theorem ne_none_group : (Str.ofString "none" = Str.ofString "group") = False := eq_false (by decide +kernel)
@[simp] theorem ne_none_close : (Str.ofString "none" = Str.ofString "close") = False := eq_false (by decide +kernel)
@[simp] theorem ne_row_sign : (Str.ofString "row" = Str.ofString "sign") = False := eq_false (by decide +kernel)
@[simp] theorem ne_row_any : (Str.ofString "row" = Str.ofString "any") = False := eq_false (by decide +kernel)
@[simp] theorem ne_row_none : (Str.ofString "row" = Str.ofString "none") = False := eq_false (by decide +kernel)
@[simp] theorem ne_row_or : (Str.ofString "row" = Str.ofString "or") = False := eq_false (by decide +kernel)
@[simp] theorem ne_row_more : (Str.ofString "row" = Str.ofString "more") = False := eq_false (by decide +kernel)
@[simp] theorem ne_row_less : (Str.ofString "row" = Str.ofString "less") = False := eq_false (by decide +kernel)
@[simp] theorem ne_row_group : (Str.ofString "row" = Str.ofString "group") = False := eq_false (by decide +kernel)
@[simp] theorem ne_row_close : (Str.ofString "row" = Str.ofString "close") = False := eq_false (by decide +kernel)
@[simp] theorem ne_or_sign : (Str.ofString "or" = Str.ofString "sign") = False := eq_false (by decide +kernel)
@[simp] theorem ne_or_any : (Str.ofString "or" = Str.ofString "any") = False := eq_false (by decide +kernel)
@[simp] theorem ne_or_none : (Str.ofString "or" = Str.ofString "none") = False := eq_false (by decide +kernel)
@[simp] theorem ne_or_row : (Str.ofString "or" = Str.ofString "row") = False := eq_false (by decide +kernel)
@[simp] theorem ne_or_more : (Str.ofString "or" = Str.ofString "more") = False := eq_false (by decide +kernel)
@[simp] theorem ne_or_less : (Str.ofString "or" = Str.ofString "less") = False := eq_false (by decide +kernel)
@[simp] theorem ne_or_group : (Str.ofString "or" = Str.ofString "group") = False := eq_false (by decide +kernel)
@[simp] theorem ne_or_close : (Str.ofString "or" = Str.ofString "close") = False := eq_false (by decide +kernel)
@[simp] theorem ne_more_sign : (Str.ofString "more" = Str.ofString "sign") = False := eq_false (by decide +kernel)
@[simp] theorem ne_more_any : (Str.ofString "more" = Str.ofString "any") = False := eq_false (by decide +kernel)
@[simp] theorem ne_more_none : (Str.ofString "more" = Str.ofString "none") = False := eq_false (by decide +kernel)
@[simp] theorem ne_more_row : (Str.ofString "more" = Str.ofString "row") = False := eq_false (by decide +kernel)
@[simp] theorem ne_more_or : (Str.ofString "more" = Str.ofString "or") = False := eq_false (by decide +kernel)
@[simp] theorem ne_more_less : (Str.ofString "more" = Str.ofString "less") = False := eq_false (by decide +kernel)
@[simp] theorem ne_more_group : (Str.ofString "more" = Str.ofString "group") = False := eq_false (by decide +kernel)
@[simp] theorem ne_more_close : (Str.ofString "more" = Str.ofString "close") = False := eq_false (by decide +kernel)
@[simp] theorem ne_less_sign : (Str.ofString "less" = Str.ofString "sign") = False := eq_false (by decide +kernel)
@[simp] theorem ne_less_any : (Str.ofString "less" = Str.ofString "any") = False := eq_false (by decide +kernel)
@[simp] theorem ne_less_none : (Str.ofString "less" = Str.ofString "none") = False := eq_false (by decide +kernel)
@[simp] theorem ne_less_row : (Str.ofString "less" = Str.ofString "row") = False := eq_false (by decide +kernel)
@[simp] theorem ne_less_or : (Str.ofString "less" = Str.ofString "or") = False := eq_false (by decide +kernel)
@[simp] theorem ne_less_more : (Str.ofString "less" = Str.ofString "more") = False := eq_false (by decide +kernel)
@[simp] theorem ne_less_group : (Str.ofString "less" = Str.ofString "group") = False := eq_false (by decide +kernel)
@[simp] theorem ne_less_close : (Str.ofString "less" = Str.ofString "close") = False := eq_false (by decide +kernel)
@[simp] theorem ne_group_sign : (Str.ofString "group" = Str.ofString "sign") = False := eq_false (by decide +kernel)
@[simp] theorem ne_group_any : (Str.ofString "group" = Str.ofString "any") = False := eq_false (by decide +kernel)
@[simp] theorem ne_group_none : (Str.ofString "group" = Str.ofString "none") = False := eq_false (by decide +kernel)
@[simp] theorem ne_group_row : (Str.ofString "group" = Str.ofString "row") = False := eq_false (by decide +kernel)
@[simp] theorem ne_group_or : (Str.ofString "group" = Str.ofString "or") = False := eq_false (by decide +kernel)
@[simp] theorem ne_group_more : (Str.ofString "group" = Str.ofString "more") = False := eq_false (by decide +kernel)
@[simp] theorem ne_group_less : (Str.ofString "group" = Str.ofString "less") = False := eq_false (by decide +kernel)
@[simp] theorem ne_group_close : (Str.ofString "group" = Str.ofString "close") = False := eq_false (by decide +kernel)
@[simp] theorem ne_close_sign : (Str.ofString "close" = Str.ofString "sign") = False := eq_false (by decide +kernel)
@[simp] theorem ne_close_any : (Str.ofString "close" = Str.ofString "any") = False := eq_false (by decide +kernel)
@[simp] theorem ne_close_none : (Str.ofString "close" = Str.ofString "none") = False := eq_false (by decide +kernel)
@[simp] theorem ne_close_row : (Str.ofString "close" = Str.ofString "row") = False := eq_false (by decide +kernel)
@[simp] theorem ne_close_or : (Str.ofString "close" = Str.ofString "or") = False := eq_false (by decide +kernel)
@[simp] theorem ne_close_more : (Str.ofString "close" = Str.ofString "more") = False := eq_false (by decide +kernel)
@[simp] theorem ne_close_less : (Str.ofString "close" = Str.ofString "less") = False := eq_false (by decide +kernel)
@[simp] theorem ne_close_group : (Str.ofString "close" = Str.ofString "group") = False := eq_false (by decide +kernel)
/-! ### patterns -/
inductive Pat where
  | sign (s : Str) | any | non | row (p q : Pat) | or (p q : Pat) | more (p : Pat) | less (p : Pat) | group (n : Int) (p : Pat)
def enc : Pat → PyData
  | .sign s => .tuple [.str "sign", .str s]
  | .any => .tuple [.str "any"]
  | .non => .tuple [.str "none"]
  | .row p q => .tuple [.str "row", enc p, enc q]
  | .or p q => .tuple [.str "or", enc p, enc q]
  | .more p => .tuple [.str "more", enc p]
  | .less p => .tuple [.str "less", enc p]
  | .group n p => .tuple [.str "group", .int n, enc p]
def kids : Pat → List Pat
  | .row p q => [p, q]
  | .or p q => [p, q]
  | .more p => [p]
  | .less p => [p]
  | .group _ p => [p]
  | _ => []
def Pat.parts : Pat → List Pat
  | .row p q => .row p q :: (p.parts ++ q.parts)
  | .or p q => .or p q :: (p.parts ++ q.parts)
  | .more p => .more p :: p.parts
  | .less p => .less p :: p.parts
  | .group n p => .group n p :: p.parts
  | p => [p]
/-- may take nothing -/
def Pat.nul : Pat → Bool
  | .non => true
  | .more _ => true
  | .less _ => true
  | .row p q => p.nul && q.nul
  | .or p q => p.nul || q.nul
  | .group _ p => p.nul
  | _ => false
theorem szl : sizeLine = 16777216 := sizeLine_eq
/-- how deep a pattern's tuples stand -/
def Pat.dep : Pat → Nat
  | .row p q => max p.dep q.dep + 1
  | .or p q => max p.dep q.dep + 1
  | .more p => p.dep + 1
  | .less p => p.dep + 1
  | .group _ p => p.dep + 1
  | _ => 1
theorem dep_pos : ∀ p : Pat, 0 < p.dep := by
  intro p
  cases p <;> simp [Pat.dep]
/-- its signs are texts that may be compared -/
def Pat.good : Pat → Bool
  | .sign s => PyData.strOk s
  | .row p q => p.good && q.good
  | .or p q => p.good && q.good
  | .more p => p.good
  | .less p => p.good
  | .group _ p => p.good
  | _ => true
theorem parts_pos : ∀ p : Pat, 0 < p.parts.length := by
  intro p
  cases p <;> simp [Pat.parts]
theorem parts_kids : ∀ p : Pat, p.parts = p :: (kids p).flatMap Pat.parts := by
  intro p
  cases p <;> simp [Pat.parts, kids]
theorem strOk_words : PyData.strOk "sign" = true ∧ PyData.strOk "any" = true ∧ PyData.strOk "none" = true ∧ PyData.strOk "row" = true ∧ PyData.strOk "or" = true ∧ PyData.strOk "more" = true ∧ PyData.strOk "less" = true ∧ PyData.strOk "group" = true ∧ PyData.strOk "close" = true := by decide +kernel
theorem enc_lay : ∀ p : Pat, p.good = true → (enc p).canLay0 = true := by
  obtain ⟨w1, w2, w3, w4, w5, w6, w7, w8, w9⟩ := strOk_words
  intro p
  induction p with
  | sign s => intro h; simp [enc, PyData.canLay0, PyData.canLayAll0, w1]; exact h
  | any => intro h; simp [enc, PyData.canLay0, PyData.canLayAll0, w2]
  | non => intro h; simp [enc, PyData.canLay0, PyData.canLayAll0, w3]
  | row p q ihp ihq => intro h; simp [Pat.good] at h; simp [enc, PyData.canLay0, PyData.canLayAll0, w4, ihp h.1, ihq h.2]
  | or p q ihp ihq => intro h; simp [Pat.good] at h; simp [enc, PyData.canLay0, PyData.canLayAll0, w5, ihp h.1, ihq h.2]
  | more p ih => intro h; simp [enc, PyData.canLay0, PyData.canLayAll0, w6, ih h]
  | less p ih => intro h; simp [enc, PyData.canLay0, PyData.canLayAll0, w7, ih h]
  | group n p ih => intro h; simp [enc, PyData.canLay0, PyData.canLayAll0, w8, ih h]
theorem enc_dep : ∀ p : Pat, (enc p).depth = p.dep := by
  intro p
  induction p with
  | row p q ihp ihq => simp [enc, PyData.depth, PyData.depthAll, Pat.dep, ihp, ihq]
  | or p q ihp ihq => simp [enc, PyData.depth, PyData.depthAll, Pat.dep, ihp, ihq]
  | more p ih => simp [enc, PyData.depth, PyData.depthAll, Pat.dep, ih]
  | less p ih => simp [enc, PyData.depth, PyData.depthAll, Pat.dep, ih]
  | group n p ih => simp [enc, PyData.depth, PyData.depthAll, Pat.dep, ih]
  | _ => simp [enc, PyData.depth, PyData.depthAll, Pat.dep]
theorem canLayAll_of {ds : List PyData} (h : ∀ d ∈ ds, d.canLay0 = true) : PyData.canLayAll0 ds = true := by
  induction ds with
  | nil => rfl
  | cons d ds ih => rw [PyData.canLayAll0, h d List.mem_cons_self, ih fun x hx => h x (List.mem_cons_of_mem _ hx)]; rfl
theorem depthAll_of {ds : List PyData} {n : Nat} (h : ∀ d ∈ ds, d.depth ≤ n) : PyData.depthAll ds ≤ n := by
  induction ds with
  | nil => exact Nat.zero_le _
  | cons d ds ih =>
    rw [PyData.depthAll]
    exact Nat.max_le.mpr ⟨h d List.mem_cons_self, ih fun x hx => h x (List.mem_cons_of_mem _ hx)⟩
theorem shaped_list {ds : List PyData} (h1 : ∀ d ∈ ds, d.canLay0 = true) (h2 : ∀ d ∈ ds, d.depth ≤ 63) : SeqAt.shaped (.list ds) = true := by
  have a : (PyData.list ds).canLay0 = true := by rw [PyData.canLay0]; exact canLayAll_of h1
  have b : (PyData.list ds).depth ≤ 64 := by rw [PyData.depth]; exact Nat.succ_le_succ (depthAll_of h2)
  unfold SeqAt.shaped
  rw [a, decide_eq_true b]
  rfl
theorem shaped_tuple {ds : List PyData} (h1 : ∀ d ∈ ds, d.canLay0 = true) (h2 : ∀ d ∈ ds, d.depth ≤ 63) : SeqAt.shaped (.tuple ds) = true := by
  have a : (PyData.tuple ds).canLay0 = true := by rw [PyData.canLay0]; exact canLayAll_of h1
  have b : (PyData.tuple ds).depth ≤ 64 := by rw [PyData.depth]; exact Nat.succ_le_succ (depthAll_of h2)
  unfold SeqAt.shaped
  rw [a, decide_eq_true b]
  rfl
theorem parts_sub : ∀ p : Pat, p.good = true → ∀ q ∈ p.parts, q.good = true ∧ q.dep ≤ p.dep := by
  intro p
  induction p with
  | row p1 p2 ih1 ih2 =>
    intro h q hq
    have h' := h
    simp [Pat.good] at h'
    simp [Pat.parts] at hq
    rcases hq with rfl | hq | hq
    · exact ⟨h, Nat.le_refl _⟩
    · have := ih1 h'.1 q hq; exact ⟨this.1, by simp [Pat.dep]; omega⟩
    · have := ih2 h'.2 q hq; exact ⟨this.1, by simp [Pat.dep]; omega⟩
  | or p1 p2 ih1 ih2 =>
    intro h q hq
    have h' := h
    simp [Pat.good] at h'
    simp [Pat.parts] at hq
    rcases hq with rfl | hq | hq
    · exact ⟨h, Nat.le_refl _⟩
    · have := ih1 h'.1 q hq; exact ⟨this.1, by simp [Pat.dep]; omega⟩
    · have := ih2 h'.2 q hq; exact ⟨this.1, by simp [Pat.dep]; omega⟩
  | more p ih =>
    intro h q hq
    simp [Pat.parts] at hq
    rcases hq with rfl | hq
    · exact ⟨h, Nat.le_refl _⟩
    · have := ih h q hq; exact ⟨this.1, by simp [Pat.dep]; omega⟩
  | less p ih =>
    intro h q hq
    simp [Pat.parts] at hq
    rcases hq with rfl | hq
    · exact ⟨h, Nat.le_refl _⟩
    · have := ih h q hq; exact ⟨this.1, by simp [Pat.dep]; omega⟩
  | group n p ih =>
    intro h q hq
    simp [Pat.parts] at hq
    rcases hq with rfl | hq
    · exact ⟨h, Nat.le_refl _⟩
    · have := ih h q hq; exact ⟨this.1, by simp [Pat.dep]; omega⟩
  | _ =>
    intro h q hq
    simp [Pat.parts] at hq
    subst hq
    exact ⟨h, Nat.le_refl _⟩
/-- what a pile weighs -/
def wt (s : List Pat) : Nat := (s.map fun p => p.parts.length).sum
@[simp] theorem wt_cons (p : Pat) (s : List Pat) : wt (p :: s) = p.parts.length + wt s := by simp [wt]
@[simp] theorem wt_nil : wt [] = 0 := rfl
theorem wt_len : ∀ s : List Pat, s.length ≤ wt s
  | [] => Nat.le_refl _
  | p :: s => by
    have := wt_len s
    have := parts_pos p
    simp
    omega
def intL (ns : List Int) : PyData := .list (ns.map PyData.int)
def signs : Str := (" !\"#$&'()*+,-./0123456789:;<=>?@ABCDEFGHIJKLMNOPQRSTUVWXYZ[\\]^_`" : Str) ++ ("abcdefghijklmnopqrstuvwxyz{|}~\n" : Str)
theorem signs_len : signs.cps.toList.length = 95 := by decide +kernel
theorem signs_size : signs.length = 95 := by decide +kernel
theorem signs_ok : signs.cps.toList.all (fun c => decide (c < 128)) = true := by decide +kernel
theorem signs_add : fAdd (.str " !\"#$&'()*+,-./0123456789:;<=>?@ABCDEFGHIJKLMNOPQRSTUVWXYZ[\\]^_`") (.str "abcdefghijklmnopqrstuvwxyz{|}~\n") = some (.dat (.str signs)) := by
  have h : (" !\"#$&'()*+,-./0123456789:;<=>?@ABCDEFGHIJKLMNOPQRSTUVWXYZ[\\]^_`" : Str).length + ("abcdefghijklmnopqrstuvwxyz{|}~\n" : Str).length ≤ sizeLine := by decide +kernel
  rw [fAdd, if_pos h]
  rfl
theorem atI_mod {α : Type} (l : List α) (n : Nat) (c : Int) (hl : l.length = n) (hn : 0 < n) : ∃ x, x ∈ l ∧ atI l (c % (n : Int)) = some x := by
  have h0 : 0 ≤ c % (n : Int) := Int.emod_nonneg _ (by omega)
  have h1 : c % (n : Int) < n := Int.emod_lt_of_pos _ (by omega)
  obtain ⟨k, hk⟩ := Int.eq_ofNat_of_zero_le h0
  have hk2 : k < l.length := by omega
  exact ⟨l[k], List.getElem_mem hk2, by rw [hk]; exact atI_nat (List.getElem?_eq_getElem hk2)⟩
theorem mod2 (c : Int) : c % 2 = 0 ∨ c % 2 = 1 := by omega
theorem mod3 (c : Int) : c % 3 = 0 ∨ c % 3 = 1 ∨ c % 3 = 2 := by omega
theorem cutL_map {α β : Type} (f : α → β) (l : List α) (lo hi : Option Int) : cutL (l.map f) lo hi = (cutL l lo hi).map f := by
  unfold cutL
  simp
theorem cutL_len {α : Type} (l : List α) (lo hi : Option Int) : (cutL l lo hi).length ≤ l.length := by
  unfold cutL
  simp
  omega
theorem cutL_nat {α : Type} (l : List α) (i j : Nat) : (cutL l (some (i : Int)) (some (j : Int))).length ≤ j - i := by
  unfold cutL
  rw [show HT.sIx l.length 0 (some (i : Int)) = min i l.length from HT.sIx_nat l.length 0 i, show HT.sIx l.length l.length (some (j : Int)) = min j l.length from HT.sIx_nat l.length l.length j]
  simp
  omega
end GM

namespace GM
open PySem PySem.Spec L2
/-! ### exceptions -/
structure ErrC (K : PySem.W.Frag) (mg : Str → Option Value) (x : Str) (a : Addr) : Prop where
  gC : mg x = some (.ref a)
  xC : PySem.W.excIn K a [.type "ValueError", .type "Exception", .type "BaseException", .type "object"] "ValueError.__new__" = true
  kC : PySem.W.keepIn K (.ref a) = true
  bC : PySem.W.subIn K (.ref a) (.type "BaseException") = some true
  tC : PySem.W.typeIn K (.ref a) = some (.type "type")
def erC (a b c d : Addr) : Er → Addr
  | .bad => a
  | .twice => b
  | .empt => c
  | .way => d
section
variable {X : Cx} {W : WX} {C : Er → Addr} {pos : Pos} {e a b : Expr} {es : List Expr}
@[simp] def gRaise (c : Er) : En → Out Fl := fun r => .err c r
theorem s_raise {c : Er} {x m : Str} {j : Nat} {p p2 pos' : Pos} (F : ErrC X.K X.mg x (C c)) (tk : L2N.Takes X W) (hc : X.calm = true := by rfl) (hg : Gl X x := by rfl) (hdb : (x == ("__debug__" : Str)) = false := by decide) :
    Sd X W C (.Raise (some (.Call (.Name x p) [.Constant (.str m) j p2] [] pos)) none pos') (gRaise c) :=
  ⟨_, L2N.ps_raise hc tk (L2N.pmk_own PySem.F.excBase_ValueError F.xC F.gC F.kC (raises_own F.bC F.tC) hg hdb), fun B G0 G H σ r D eo p => p σ G H eo (Same.refl G)⟩
def canonS (K : PySem.W.Frag) (W : WX) (C : Er → Addr) (g : En → Out Fl) : TS := fun D σ H => ∃ (B G0 G : Hp) (r : En), EO K B G0 G H σ r ∧ PostF K W C B G0 G D (g r)
theorem Bd.canon {sts : List Stmt} {g : En → Out Fl} (h : Bd X W C sts g) : PSs X sts (canonS X.K W C g) := by
  obtain ⟨ts, h1, h2⟩ := h.ex
  refine ⟨fun pins s σ H D I hw => ?_⟩
  obtain ⟨B, G0, G, r, eo, p⟩ := hw
  exact h1.run pins s σ H D I (h2 B G0 G H σ r D eo p)
/-! ### is None -/
@[simp] def fIsN : PyData → Option PyData
  | .none => some (.bool true)
  | _ => some (.bool false)
@[simp] def fNotN : PyData → Option PyData
  | .none => some (.bool false)
  | _ => some (.bool true)
theorem d_isN {j : Nat} {p : Pos} {t : En → Out PyData} (ha : Ed X W C a t) : Ed X W C (.Compare a [.Is] [.Constant .none j p] pos) (op1 fIsN t) := by
  obtain ⟨ea, a1, a2⟩ := ha.ex
  refine ⟨_, pe_cmp (pc_isN a1), fun B G0 G H σ r Q eo p => ?_⟩
  refine j_op1 (R := rD) (rop := fun x H Q => Q (.bl (decide (x = .non))) H) a2 (fun B G0 G H σ r x d s Q eo hx hf q => ?_) B G0 G H σ r Q eo p
  cases hx with
  | non => cases hf; exact q _ G H eo (Same.refl G) (.bl _)
  | _ => cases hf; exact q _ G H eo (Same.refl G) (.bl _)
theorem d_notN {j : Nat} {p : Pos} {t : En → Out PyData} (ha : Ed X W C a t) : Ed X W C (.Compare a [.IsNot] [.Constant .none j p] pos) (op1 fNotN t) := by
  obtain ⟨ea, a1, a2⟩ := ha.ex
  refine ⟨_, pe_cmp (pc_notN a1), fun B G0 G H σ r Q eo p => ?_⟩
  refine j_op1 (R := rD) (rop := fun x H Q => Q (.bl (!decide (x = .non))) H) a2 (fun B G0 G H σ r x d s Q eo hx hf q => ?_) B G0 G H σ r Q eo p
  cases hx with
  | non => cases hf; exact q _ G H eo (Same.refl G) (.bl _)
  | _ => cases hf; exact q _ G H eo (Same.refl G) (.bl _)
@[simp] def bIsN : PyData → Option Bool
  | .none => some true
  | _ => some false
@[simp] def bNotN : PyData → Option Bool
  | .none => some false
  | _ => some true
theorem t_isN {j : Nat} {p : Pos} {t : En → Out PyData} (ha : Ed X W C a t) : Td X W C (.Compare a [.Is] [.Constant .none j p] pos) (op1 bIsN t) := by
  obtain ⟨ea, a1, a2⟩ := ha.ex
  refine ⟨_, pt_cmp (pc_isN a1), fun B G0 G H σ r Q eo p => ?_⟩
  refine j_op1 (R := GM.rI Bool) (rop := fun x H Q => ∃ c, V.bl (decide (x = .non)) = .bl c ∧ Q c H) a2 (fun B G0 G H σ r x d s Q eo hx hf q => ?_) B G0 G H σ r Q eo p
  cases hx with
  | non => cases hf; exact ⟨_, rfl, q _ G H eo (Same.refl G) rfl⟩
  | _ => cases hf; exact ⟨_, rfl, q _ G H eo (Same.refl G) rfl⟩
theorem t_notN {j : Nat} {p : Pos} {t : En → Out PyData} (ha : Ed X W C a t) : Td X W C (.Compare a [.IsNot] [.Constant .none j p] pos) (op1 bNotN t) := by
  obtain ⟨ea, a1, a2⟩ := ha.ex
  refine ⟨_, pt_cmp (pc_notN a1), fun B G0 G H σ r Q eo p => ?_⟩
  refine j_op1 (R := GM.rI Bool) (rop := fun x H Q => ∃ c, V.bl (!decide (x = .non)) = .bl c ∧ Q c H) a2 (fun B G0 G H σ r x d s Q eo hx hf q => ?_) B G0 G H σ r Q eo p
  cases hx with
  | non => cases hf; exact ⟨_, rfl, q _ G H eo (Same.refl G) rfl⟩
  | _ => cases hf; exact ⟨_, rfl, q _ G H eo (Same.refl G) rfl⟩
end
/-! ### dicts of one's own, keys ints or texts -/
def keyOf : PyData → Option Key
  | .int i => some (.inl i)
  | .str x => some (.inr x)
  | _ => none
@[simp] theorem keyOf_i (i : Int) : keyOf (.int i) = some (.inl i) := rfl
@[simp] theorem keyOf_s (x : Str) : keyOf (.str x) = some (.inr x) := rfl
def keyD : Key → PyData
  | .inl i => .int i
  | .inr x => .str x
@[simp] theorem keyD_i (i : Int) : keyD (.inl i) = .int i := rfl
def valD (l : List (Key × PyData)) (k : Key) : Option PyData := (l.find? fun kv => decide (kv.1 = k)).map (·.2)
def putD (l : List (Key × PyData)) (k : Key) (d : PyData) : List (Key × PyData) := if (l.any fun kv => decide (kv.1 = k)) = true then l.map (fun kv => if kv.1 = k then (kv.1, d) else kv) else l ++ [(k, d)]
section
variable {K : PySem.W.Frag} {G : Hp} {k : Key}
theorem key_dp {v : V} {y : PyData} (h : Dp K G v y) (hk : keyOf y = some k) : v = kV k := by
  cases h with
  | int i => cases hk; rfl
  | str x => cases hk; rfl
  | _ => cases hk
theorem keyD_dp : Dp K G (kV k) (keyD k) := by
  cases k with
  | inl i => exact .int i
  | inr x => exact .str x
theorem kv_cons {p : Key × V} {kvs : List (Key × V)} {q : Key × PyData} {l : List (Key × PyData)} (h : KvAll K G (p :: kvs) (q :: l)) : p.1 = q.1 ∧ Dp K G p.2 q.2 ∧ KvAll K G kvs l := by
  obtain ⟨h1, h2⟩ := h
  simp only [List.map_cons, List.cons.injEq] at h1 h2
  cases h2 with
  | cons a b => exact ⟨h1.1, a, h1.2, b⟩
theorem kv_mk {p : Key × V} {kvs : List (Key × V)} {q : Key × PyData} {l : List (Key × PyData)} (h1 : p.1 = q.1) (h2 : Dp K G p.2 q.2) (h3 : KvAll K G kvs l) : KvAll K G (p :: kvs) (q :: l) :=
  ⟨by rw [List.map_cons, List.map_cons, h1, h3.1], .cons h2 h3.2⟩
theorem kv_len {kvs : List (Key × V)} {l : List (Key × PyData)} (h : KvAll K G kvs l) : kvs.length = l.length := by
  have := congrArg List.length h.1
  simpa using this
theorem kv_val : ∀ {kvs : List (Key × V)} {l : List (Key × PyData)}, KvAll K G kvs l → (∀ d, valD l k = some d → ∃ v, valV kvs k = some v ∧ Dp K G v d) ∧ (valD l k = none → valV kvs k = none)
  | [], [], _ => ⟨(fun d h => by cases h), fun _ => rfl⟩
  | [], _ :: _, h => by have := kv_len h; simp at this
  | _ :: _, [], h => by have := kv_len h; simp at this
  | p :: kvs, q :: l, h => by
    obtain ⟨h1, h2, h3⟩ := kv_cons h
    obtain ⟨i1, i2⟩ := kv_val h3
    by_cases hq : q.1 = k
    · have e : valD (q :: l) k = some q.2 := by simp [valD, List.find?_cons, hq]
      rw [e, valV_pos (h1.trans hq)]
      exact ⟨(fun d hd => by cases hd; exact ⟨_, rfl, h2⟩), (fun z => by cases z)⟩
    · have e : valD (q :: l) k = valD l k := by simp [valD, List.find?_cons, hq]
      rw [e, valV_neg (fun z => hq (h1 ▸ z))]
      exact ⟨i1, i2⟩
theorem kv_any : ∀ {kvs : List (Key × V)} {l : List (Key × PyData)}, KvAll K G kvs l → (kvs.any fun kv => decide (kv.1 = k)) = (l.any fun kv => decide (kv.1 = k))
  | [], [], _ => rfl
  | [], _ :: _, h => by have := kv_len h; simp at this
  | _ :: _, [], h => by have := kv_len h; simp at this
  | p :: kvs, q :: l, h => by
    obtain ⟨h1, h2, h3⟩ := kv_cons h
    rw [List.any_cons, List.any_cons, kv_any h3, h1]
theorem kv_map {v : V} {d : PyData} (hd : Dp K G v d) : ∀ {kvs : List (Key × V)} {l : List (Key × PyData)}, KvAll K G kvs l → KvAll K G (kvs.map (fun kv => if kv.1 = k then (kv.1, v) else kv)) (l.map (fun kv => if kv.1 = k then (kv.1, d) else kv))
  | [], [], _ => ⟨rfl, .nil⟩
  | [], _ :: _, h => by have := kv_len h; simp at this
  | _ :: _, [], h => by have := kv_len h; simp at this
  | p :: kvs, q :: l, h => by
    obtain ⟨h1, h2, h3⟩ := kv_cons h
    rw [List.map_cons, List.map_cons]
    refine kv_mk ?_ ?_ (kv_map hd h3)
    · rw [h1]
      by_cases hq : q.1 = k <;> simp [hq, h1]
    · rw [h1]
      by_cases hq : q.1 = k <;> simp [hq, h2, hd]
theorem kv_app {v : V} {d : PyData} (hd : Dp K G v d) : ∀ {kvs : List (Key × V)} {l : List (Key × PyData)}, KvAll K G kvs l → KvAll K G (kvs ++ [(k, v)]) (l ++ [(k, d)])
  | [], [], _ => kv_mk rfl hd ⟨rfl, .nil⟩
  | [], _ :: _, h => by have := kv_len h; simp at this
  | _ :: _, [], h => by have := kv_len h; simp at this
  | p :: kvs, q :: l, h => by
    obtain ⟨h1, h2, h3⟩ := kv_cons h
    exact kv_mk h1 h2 (kv_app hd h3)
theorem kv_put {kvs : List (Key × V)} {l : List (Key × PyData)} {v : V} {d : PyData} (h : KvAll K G kvs l) (hd : Dp K G v d) : KvAll K G (putK kvs k v) (putD l k d) := by
  unfold putK putD
  rw [kv_any h]
  split
  · exact kv_map hd h
  · exact kv_app hd h
theorem kv_keys : ∀ {kvs : List (Key × V)} {l : List (Key × PyData)}, KvAll K G kvs l → DpAll K G (kvs.map fun kv => kV kv.1) (l.map fun kv => keyD kv.1)
  | [], [], _ => .nil
  | [], _ :: _, h => by have := kv_len h; simp at this
  | _ :: _, [], h => by have := kv_len h; simp at this
  | p :: kvs, q :: l, h => by
    obtain ⟨h1, h2, h3⟩ := kv_cons h
    rw [List.map_cons, List.map_cons, h1]
    exact .cons keyD_dp (kv_keys h3)
end
section
variable {X : Cx} {W : WX} {C : Er → Addr} {pos : Pos} {e a b : Expr} {es : List Expr}
@[simp] def dDic : En → Out Sl := fun r => .ok (.dic []) r
theorem s_dic : Es X W C (.Dict [] [] pos) dDic :=
  ⟨_, pe_dnewK, fun B G0 G H σ r Q eo p => fun q hq => p _ G _ (eo.newOwn hq) (Same.refl G) (eo.vDic hq ⟨rfl, .nil⟩)⟩
/-- d[k], d a name -/
@[simp] def dGetV (i : Nat) (t : En → Out PyData) : En → Out PyData := fun r => match r[i]? with
  | some (.dic _) => (t r).bind fun y r => match r[i]?, keyOf y with
    | some (.dic l), some k => ofO (valD l k) r
    | _, _ => .bot
  | _ => .bot
theorem d_getV (i : Nat) {x : Str} {p : Pos} {tb : En → Out PyData} (hu : X.A.units + 1 < cLine) (hb : Ed X W C b tb) (hs : NoSl b := by exact fun _ _ => rfl) (hN : X.N[i]? = some x := by rfl) (hv : Vis X.env.scope x := by first | exact Or.inl rfl | exact Or.inr (Or.inl rfl) | exact Or.inr (Or.inr rfl))
    (hd : (x == ("__debug__" : Str)) = false := by decide) (hcd : (x == ("__classdict__" : Str)) = false := by decide) : Ed X W C (.Subscript (.Name x p) b pos) (dGetV i tb) := by
  obtain ⟨eb, b1, b2⟩ := hb.ex
  refine ⟨_, pe_dget hu (pe_var hN hv hd hcd) b1 hs, fun B G0 G H σ r Q eo pp => ?_⟩
  unfold dGetV at pp
  cases hr : r[i]? with
  | none => rw [hr] at pp; exact pp.elim
  | some s =>
    rw [hr] at pp
    cases s with
    | dic l0 =>
      obtain ⟨v, h1, q, vs0, rfl, hG0, hB0, hH0, ha0⟩ := eo.slot i _ hr
      refine ⟨_, h1, b2 B G0 G H σ r _ eo ?_⟩
      refine Post.bind (R2 := rD) pp fun y r1 v1 G1 H1 e1 s1 hv1 q1 => ?_
      cases hr1 : r1[i]? with
      | none => rw [hr1] at q1; exact q1.elim
      | some s1' =>
        rw [hr1] at q1
        cases s1' with
        | dic l =>
          obtain ⟨v2, k1, p2, vs, k2, k3, k4, k5, k6⟩ := e1.slot i _ hr1
          rw [h1] at k1
          cases k1
          cases k2
          cases hk : keyOf y with
          | none => rw [hk] at q1; exact q1.elim
          | some k =>
            rw [hk] at q1
            have q2 : Post rD X.K W C B G0 G1 σ Q (ofO (valD l k) r1) := q1
            cases hd2 : valD l k with
            | none => rw [hd2] at q2; exact q2.elim
            | some d =>
              rw [hd2] at q2
              obtain ⟨v3, z1, z2⟩ := (kv_val k6).1 d hd2
              have ek := key_dp hv1 hk
              subst ek
              exact ⟨q, v3, rfl, by rw [← z1]; exact DGet.k k5, q2.one e1 z2⟩
        | _ => exact q1.elim
    | _ => exact pp.elim
/-- d.get(k) -/
@[simp] def dGet1 (i : Nat) (t : En → Out PyData) : En → Out PyData := fun r => match r[i]? with
  | some (.dic _) => (t r).bind fun y r => match r[i]?, keyOf y with
    | some (.dic l), some k => .ok ((valD l k).getD .none) r
    | _, _ => .bot
  | _ => .bot
theorem d_get1 (i : Nat) {x : Str} {p apos : Pos} {tb : En → Out PyData} (hu : X.A.units + 1 < cLine) (hb : Ed X W C b tb) (m : M1 X (.Name x p) "get" apos b pos := by exact ⟨rfl, rfl, rfl, rfl⟩) (hN : X.N[i]? = some x := by rfl) (hv : Vis X.env.scope x := by first | exact Or.inl rfl | exact Or.inr (Or.inl rfl) | exact Or.inr (Or.inr rfl))
    (hd : (x == ("__debug__" : Str)) = false := by decide) (hcd : (x == ("__classdict__" : Str)) = false := by decide) : Ed X W C (.Call (.Attribute (.Name x p) "get" apos) [b] [] pos) (dGet1 i tb) := by
  obtain ⟨eb, b1, b2⟩ := hb.ex
  refine ⟨_, pe_dget1 hu (pe_var hN hv hd hcd) b1 m, fun B G0 G H σ r Q eo pp => ?_⟩
  unfold dGet1 at pp
  cases hr : r[i]? with
  | none => rw [hr] at pp; exact pp.elim
  | some s =>
    rw [hr] at pp
    cases s with
    | dic l0 =>
      obtain ⟨v, h1, q, vs0, rfl, hG0, hB0, hH0, ha0⟩ := eo.slot i _ hr
      refine ⟨_, h1, q, rfl, .inl ⟨vs0, .inl hH0⟩, b2 B G0 G H σ r _ eo ?_⟩
      refine Post.bind (R2 := rD) pp fun y r1 v1 G1 H1 e1 s1 hv1 q1 => ?_
      cases hr1 : r1[i]? with
      | none => rw [hr1] at q1; exact q1.elim
      | some s1' =>
        rw [hr1] at q1
        cases s1' with
        | dic l =>
          obtain ⟨v2, k1, p2, vs, k2, k3, k4, k5, k6⟩ := e1.slot i _ hr1
          rw [h1] at k1
          cases k1
          cases k2
          cases hk : keyOf y with
          | none => rw [hk] at q1; exact q1.elim
          | some k =>
            rw [hk] at q1
            have q2 : Post rD X.K W C B G0 G1 σ Q (.ok ((valD l k).getD .none) r1) := q1
            have ek := key_dp hv1 hk
            subst ek
            refine ⟨_, DGet.k k5, ?_⟩
            cases hd2 : valD l k with
            | none =>
              rw [hd2] at q2
              rw [(kv_val k6).2 hd2]
              exact q2.one e1 Dp.non
            | some d =>
              rw [hd2] at q2
              obtain ⟨v3, z1, z2⟩ := (kv_val k6).1 d hd2
              rw [z1]
              exact q2.one e1 z2
        | _ => exact q1.elim
    | _ => exact pp.elim
/-- d[k] = v -/
@[simp] def gPut (i : Nat) (t u : En → Out PyData) : En → Out Fl := fun r => (t r).bind fun d r => match r[i]? with
  | some (.dic _) => (u r).bind fun y r => match r[i]?, keyOf y with
    | some (.dic l), some k => if l.length < sizeLine then .ok .nx (r.set i (.dic (putD l k d))) else .bot
    | _, _ => .bot
  | _ => .bot
theorem s_put (i : Nat) {x : Str} {p pos' : Pos} {t u : En → Out PyData} (hu : X.A.units + 1 < cLine) (ha : Ed X W C a t) (hb : Ed X W C b u) (hs : swapsWith a (some (.Subscript (.Name x p) b pos')) pos.line X.env = pure false := by rfl) (hN : X.N[i]? = some x := by rfl) (hv : Vis X.env.scope x := by first | exact Or.inl rfl | exact Or.inr (Or.inl rfl) | exact Or.inr (Or.inr rfl))
    (hd : (x == ("__debug__" : Str)) = false := by decide) (hcd : (x == ("__classdict__" : Str)) = false := by decide) : Sd X W C (.Assign [.Subscript (.Name x p) b pos'] a pos) (gPut i t u) := by
  obtain ⟨ea, a1, a2⟩ := ha.ex
  obtain ⟨eb, b1, b2⟩ := hb.ex
  refine ⟨_, ps_dput hu (pe_var hN hv hd hcd) b1 a1 hs, fun B G0 G H σ r D eo pp => a2 B G0 G H σ r _ eo ?_⟩
  refine PostF.bind (R := rD) pp fun d r0 vd Gd Hd ed sd hvd pp => ?_
  cases hr : r0[i]? with
  | none => rw [hr] at pp; exact pp.elim
  | some s =>
    rw [hr] at pp
    cases s with
    | dic l0 =>
      obtain ⟨v, h1, q, vs0, rfl, hG0, hB0, hH0, ha0⟩ := ed.slot i _ hr
      refine ⟨_, h1, b2 B G0 Gd Hd σ r0 _ ed ?_⟩
      refine PostF.bind (R := rD) pp fun y r1 v1 G1 H1 e1 s1 hv1 q1 => ?_
      cases hr1 : r1[i]? with
      | none => rw [hr1] at q1; exact q1.elim
      | some s1' =>
        rw [hr1] at q1
        cases s1' with
        | dic l =>
          obtain ⟨v2, k1, p2, vs, k2, k3, k4, k5, k6⟩ := e1.slot i _ hr1
          rw [h1] at k1
          cases k1
          cases k2
          cases hk : keyOf y with
          | none => rw [hk] at q1; exact q1.elim
          | some k =>
            rw [hk] at q1
            have q2 : PostF X.K W C B G0 G1 D (if l.length < sizeLine then .ok .nx (r1.set i (.dic (putD l k d))) else .bot) := q1
            have ek := key_dp hv1 hk
            subst ek
            split at q2
            · rename_i hl
              refine ⟨q, _, rfl, DPut.k k5 (by rw [kv_len k6]; exact hl), ?_⟩
              exact q2 σ G1 _ (e1.mut h1 hr1 rfl (s := .dic (putD l k d)) ⟨q, _, rfl, k3, k4, upd_same, kv_put k6 (dp_same s1 _ _ hvd)⟩ rfl) (Same.refl G1)
            · exact q2.elim
        | _ => exact q1.elim
    | _ => exact pp.elim
/-- list(d) -/
@[simp] def dKeys (i : Nat) : En → Out Sl := fun r => match r[i]? with
  | some (.dic l) => .ok (.own (l.map fun kv => keyD kv.1)) r
  | _ => .bot
theorem s_keys (i : Nat) {x : Str} {p p2 : Pos} (hm : X.mg "list" = none) (hc : X.calm = true := by rfl) (hN : X.N[i]? = some x := by rfl) (hv : Vis X.env.scope x := by first | exact Or.inl rfl | exact Or.inr (Or.inl rfl) | exact Or.inr (Or.inr rfl))
    (hd : (x == ("__debug__" : Str)) = false := by decide) (hcd : (x == ("__classdict__" : Str)) = false := by decide) (hg : Gl X "list" := by rfl) (hs : starEach (.Name x p2 :: []) X.env = (false, eval (.Name x p2) X.env) :: starEach [] X.env := by rfl) (hpl : (backTo pos (starEach [] X.env)).any (·.1) = false := by rfl) :
    Es X W C (.Call (.Name "list" p) [.Name x p2] [] pos) (dKeys i) := by
  refine ⟨_, pe_callTy (call_list_dK hc) hg hm boot_list (pa_cons (pe_var hN hv hd hcd) pa_nil hs) (he := hs) (hpl := hpl), fun B G0 G H σ r Q eo pp => ?_⟩
  unfold dKeys at pp
  cases hr : r[i]? with
  | none => rw [hr] at pp; exact pp.elim
  | some s =>
    rw [hr] at pp
    cases s with
    | dic l =>
      obtain ⟨v, h1, q, vs, rfl, hG, hB, hH, ha⟩ := eo.slot i _ hr
      exact ⟨_, h1, q, vs, rfl, hH, fun q' hq => pp _ G _ (eo.newOwn hq) (Same.refl G) (eo.vOwn hq (kv_keys ha))⟩
    | _ => exact pp.elim
/-- isinstance(d, T), d a name whose slot may hold a dict of one's own -/
@[simp] def dIsiV (i : Nat) (T : String) : En → Out PyData := fun r => match r[i]? with
  | some (.dic _) => .ok (.bool (isiT T "dict")) r
  | some (.dat d) => ofO (fIsi T d) r
  | _ => .bot
theorem d_isiV (i : Nat) {x T : Str} {T' : String} {p p2 p3 : Pos} (hT : IsiOk T') (hm : X.mg "isinstance" = none) (hmT : X.mg T = none) (hbT : bootBuiltins T = some (.type T')) (hN : X.N[i]? = some x := by rfl) (hv : Vis X.env.scope x := by first | exact Or.inl rfl | exact Or.inr (Or.inl rfl) | exact Or.inr (Or.inr rfl))
    (hdx : (x == ("__debug__" : Str)) = false := by decide) (hcd : (x == ("__classdict__" : Str)) = false := by decide) (hg : Gl X "isinstance" := by rfl) (hgT : Gl X T := by rfl) (hn : T ≠ "__name__" := by decide) (hd : (T == ("__debug__" : Str)) = false := by decide)
    (hs : starEach (.Name x p2 :: [.Name T p3]) X.env = (false, eval (.Name x p2) X.env) :: starEach [.Name T p3] X.env := by rfl) (hs2 : starEach (.Name T p3 :: []) X.env = (false, eval (.Name T p3) X.env) :: starEach [] X.env := by rfl) (hpl : (backTo pos (starEach [.Name T p3] X.env)).any (·.1) = false := by rfl) :
    Ed X W C (.Call (.Name "isinstance" p) [.Name x p2, .Name T p3] [] pos) (dIsiV i T') := by
  refine ⟨_, pe_callB call_isi hg hm PyProof.Rows.boot_isinstance (pa_cons (pe_var hN hv hdx hcd) (pa_cons (pe_bltn (v := .ty T') hgT hmT hbT rfl hn hd) pa_nil hs2) hs) (he := hs) (hpl := hpl), fun B G0 G H σ r Q eo pp => ?_⟩
  unfold dIsiV at pp
  cases hr : r[i]? with
  | none => rw [hr] at pp; exact pp.elim
  | some s =>
    rw [hr] at pp
    cases s with
    | dic l =>
      obtain ⟨v, h1, q, vs, rfl, hG, hB, hH, ha⟩ := eo.slot i _ hr
      exact ⟨_, h1, _, .ty T', .type "dict", .type T', _, rfl, .ty T', .base (.dK hH), hT X.K "dict" (by decide), Post.one (R := rD) pp eo (Dp.bl _)⟩
    | dat d =>
      obtain ⟨v, h1, x, rfl, h2⟩ := eo.slot i _ hr
      have pp' : Post rD X.K W C B G0 G σ Q (.ok (.bool (isiT T' (tyName d))) r) := pp
      exact ⟨x, h1, x, .ty T', .type (tyName d), .type T', _, rfl, .ty T', tyX_of eo.gh h2, hT X.K _ (tyName_mem d), pp'.one eo (.bl _)⟩
    | _ => exact pp.elim
/-- len(set(xs)), xs a list of ints -/
def intsOf : List PyData → Option (List Int)
  | [] => some []
  | .int i :: l => (intsOf l).map (i :: ·)
  | _ :: _ => none
theorem intsOf_map : ∀ ns : List Int, intsOf (ns.map PyData.int) = some ns
  | [] => rfl
  | n :: ns => by rw [List.map_cons, intsOf, intsOf_map ns]; rfl
theorem ints_dp {K : PySem.W.Frag} {G : Hp} : ∀ {ds : List PyData} {ns : List Int} {vs : List V}, intsOf ds = some ns → DpAll K G vs ds → vs = ns.map V.int
  | [], ns, vs, h, hd => by cases h; cases hd; rfl
  | d :: ds, ns, vs, h, hd => by
    cases hd with
    | cons h1 h2 =>
      cases h1 with
      | int i =>
        cases hi : intsOf ds with
        | none => rw [intsOf, hi] at h; cases h
        | some ms =>
          rw [intsOf, hi] at h
          cases h
          rw [ints_dp hi h2]
          rfl
      | _ => cases h
def fLenSet : PyData → Option PyData
  | .list l => (intsOf l).bind fun ns => if ns.length ≤ 4000 then some (.int (PySem.W.ossOf ns).length) else none
  | _ => none
@[simp] theorem fLenSet_i (ns : List Int) : fLenSet (.list (ns.map PyData.int)) = if ns.length ≤ 4000 then some (.int (PySem.W.ossOf ns).length) else none := by
  unfold fLenSet
  simp [intsOf_map]
theorem ints_are : ∀ {ns : List Int} {us : List Value}, Vals (ns.map V.int) us → PyProof.Rows.IntsAre us ns
  | [], _, .nil => .nil
  | n :: ns, _, .cons r t => by
    obtain ⟨k, rfl⟩ := r
    exact .cons n k (ints_are t)
def tLenSet (K : PySem.W.Frag) (ta : TE) : TE := fun σ H Q => ta σ H fun x H1 => ∃ (l : Addr) (ns : List Int), x = .ref l ∧ SqL K H1 l (ns.map V.int) ∧ ns.length ≤ 4000 ∧ Q (.int (PySem.W.ossOf ns).length) H1
theorem pe_lenSetAny {ta : TE} {p p2 q : Pos} (hg : Gl X "len") (hm : X.mg "len" = none) (hg2 : Gl X "set") (hm2 : X.mg "set" = none) (ha : PE X a ta) (hc : X.calm = true) (na : starEach [a] X.env = (false, eval a X.env) :: starEach [] X.env) :
    PE X (.Call (.Name "len" p) [.Call (.Name "set" p2) [a] [] q] [] pos) (tLenSet X.K ta) := by
  refine ⟨fun pins s σ H Q I h => ?_⟩
  refine PyProof.Rows.Call_ (ld_blt I hg hm boot_len ?_)
  refine PyProof.Rows.callWith_builtin1 (PyProof.Rows.args_cons ?_ rfl) rfl rfl
  refine PyProof.Rows.Call_ (ld_blt I hg2 hm2 (show bootBuiltins "set" = some (.type "set") by decide +kernel) ?_)
  refine PyProof.Rows.callWith_type1 (PyProof.Rows.args_cons (thn (ha.run pins s σ H _ I h) fun v s1 ⟨x, H1, I1, r1, q1⟩ => PyProof.Rows.args_nil ?_) na) na rfl
  obtain ⟨l, ns, rfl, hq, hl, q1⟩ := q1
  cases r1
  obtain ⟨its, r, pl, hz⟩ := I1.list hq
  have hlen : its.toArray.size = ns.length := by rw [List.size_toArray, ← r.length, List.length_map]
  refine call_set_list (I1.ok.hd hc) pl.isList (by simpa using ints_are r) (by rw [hlen]; unfold scanBound; omega) fun h' tk hS hk => ?_
  refine PyProof.Rows.args_nil ?_
  have hle := PyProof.Rows.firstMet_length_le (fun i => ns.getD i 0) ns.length
  rw [hlen] at hS
  rw [PySem.W.oss_met] at hS hle
  obtain ⟨o, es, ep, t, ho, hex, hd, _, _, _, hf, hn⟩ := hS
  have I2 : Inv X pins σ H1 { s1 with heap := h', toks := tk } := I1.kept fun b o e => hk b o (Heap.lt_size e) e
  exact call_len_set ho hex hd hf (by rw [hn] <;> omega) ⟨.int (PySem.W.ossOf ns).length, H1, I2.tok _, ⟨_, by rw [hn]⟩, q1⟩
theorem d_lenSet {p p2 q : Pos} {t : En → Out PyData} (hm : X.mg "len" = none) (hm2 : X.mg "set" = none) (ha : Ed X W C a t) (hg : Gl X "len" := by rfl) (hg2 : Gl X "set" := by rfl) (hc : X.calm = true := by rfl) (na : starEach [a] X.env = (false, eval a X.env) :: starEach [] X.env := by rfl) :
    Ed X W C (.Call (.Name "len" p) [.Call (.Name "set" p2) [a] [] q] [] pos) (op1 fLenSet t) := by
  obtain ⟨ea, a1, a2⟩ := ha.ex
  refine ⟨_, pe_lenSetAny hg hm hg2 hm2 a1 hc na, fun B G0 G H σ r Q eo p => ?_⟩
  refine j_op1 (R := rD) (rop := fun x H Q => ∃ (l : Addr) (ns : List Int), x = .ref l ∧ SqL X.K H l (ns.map V.int) ∧ ns.length ≤ 4000 ∧ Q (.int (PySem.W.ossOf ns).length) H) a2 (fun B G0 G H σ r x d s Q eo hx hf q => ?_) B G0 G H σ r Q eo p
  cases hx with
  | lst h1 h2 =>
    rename_i ds
    have hf0 : ((intsOf ds).bind fun ns => if ns.length ≤ 4000 then some (PyData.int (PySem.W.ossOf ns).length) else none) = some s := hf
    cases hi : intsOf ds with
    | none => rw [hi] at hf0; cases hf0
    | some ns =>
      rw [hi] at hf0
      have hf' : (if ns.length ≤ 4000 then some (PyData.int (PySem.W.ossOf ns).length) else none) = some s := hf0
      split at hf'
      · rename_i hl
        cases hf'
        have e := ints_dp hi h2
        subst e
        exact ⟨_, ns, rfl, eo.gh.seq h1, hl, q _ G H eo (Same.refl G) (.int _)⟩
      · cases hf'
  | _ => cases hf
/-- a promise that says nothing of what is raised -/
def spL (K : PySem.W.Frag) (n : Nat) (F : List PyData → Res) : Sp := fun vs H Q E => vs.length = n ∧ ∃ (G : Hp) (ds : List PyData), Same G H ∧ DpAll K G vs ds ∧
  match F ds with
  | .ok s => ∀ v G' H', Same H H' → Same G G' → Same G' H' → (∀ p, G' p ≠ none → G p ≠ none ∨ H p = none) → SlOk K H G' H' (some v) s → Q v H'
  | _ => False
theorem spL_spD {K : PySem.W.Frag} {C : Er → Addr} {n : Nat} {F : List PyData → Res} : ∀ vs H Q E, spL K n F vs H Q E → spD K C n F vs H Q E := by
  intro vs H Q E h
  obtain ⟨h1, G, ds, h2, h3, h4⟩ := h
  refine ⟨h1, G, ds, h2, h3, ?_⟩
  cases hF : F ds with
  | ok s => rw [hF] at h4; exact h4
  | err c => rw [hF] at h4; exact h4.elim
  | bot => rw [hF] at h4; exact h4.elim
theorem law_spL {K : PySem.W.Frag} {H : Hp} {a : Addr} {ns : List Int} {F : List PyData → Res} (hS : SqL K H a (ns.map V.int)) (h : F [.list (ns.map PyData.int)] = .ok (.dat (.bool true))) : spL K 1 F [.ref a] H (fun v _ => v = .bl true) fun _ _ _ => False := by
  refine ⟨rfl, H, [.list (ns.map PyData.int)], Same.refl H, .cons (.lst hS (dpAll_ints ns)) .nil, ?_⟩
  rw [h]
  intro v G' H' _ _ _ _ hs
  obtain ⟨x, e, d⟩ := hs
  cases e
  cases d
  rfl
end
end GM

namespace GM
open PySem PySem.Spec L2
/-! ### several except clauses -/
@[simp] def gPick : List ((Er → Bool) × (En → Out Fl)) → Er → En → Out Fl
  | [], c, r => .err c r
  | (er, gs) :: l, c, r => if er c = true then gs r else gPick l c r
@[simp] def gTryN (l : List ((Er → Bool) × (En → Out Fl))) (g : En → Out Fl) : En → Out Fl := fun r => match g r with
  | .err c r1 => gPick l c r1
  | o => o
section
variable {X : Cx} {W : WX} {C : Er → Addr} {pos : Pos}
theorem hot_suite {a : Addr} {oe : Obj} {cls : Value} {d : Option Addr} {pn : List (Addr × Obj)} (hz : L2N.Zn cls d oe) (hv : ∃ vs, oe.data = .fields vs) : L2H.HotC (X.suite a ((a, oe) :: pn)) := by
  obtain ⟨vs, hv⟩ := hv
  exact ⟨(a, oe), ⟨rfl, vs, hv, hz.2.2 vs hv⟩, List.mem_cons_self⟩
inductive Hs (X : Cx) (W : WX) (C : Er → Addr) : List ExceptHandler → List ((Er → Bool) × (En → Out Fl)) → Prop
  | nil : Hs X W C [] []
  | cons {x : Str} {cc : Value} {er : Er → Bool} {suite : List Stmt} {b0 : Stmt} {np pos' : Pos} {gs : En → Out Fl} {hds : List ExceptHandler} {l : List ((Er → Bool) × (En → Out Fl))} (hE : ∀ c, PySem.W.exmOne X.K (.ref (C c)) cc = some (er c)) (hc : Names X x cc)
      (hsu : ∀ (a : Addr) (pn : List (Addr × Obj)), L2H.HotC (X.suite a pn) → Bd (X.suite a pn) W C (b0 :: suite) gs) (r : Hs X W C hds l) : Hs X W C (.ExceptHandler (some (.Name x np)) none (b0 :: suite) pos' :: hds) ((er, gs) :: l)
theorem hs_many {hds : List ExceptHandler} {l : List ((Er → Bool) × (En → Out Fl))} (h : Hs X W C hds l) : ∃ l', L2N.HdsOk X hds l' ∧ ∀ (B G0 G H : Hp) (σ : St) (r1 : En) (D : Ends) (c : Er), EO X.K B G0 G H σ r1 → PostF X.K W C B G0 G D (gPick l c r1) → wMany X.K W D l' (.ref (C c)) none σ H := by
  induction h with
  | nil => exact ⟨[], .nil, fun B G0 G H σ r1 D c eo p => p σ G H eo (Same.refl G)⟩
  | @cons x cc er suite b0 np pos' gs hds l hE hc hsu r ih =>
    obtain ⟨l', k1, k2⟩ := ih
    refine ⟨(cc, fun _ _ _ => canonS X.K W C gs) :: l', .cons hc (fun a oe cls d pn hz hv => (hsu a _ (hot_suite hz hv)).canon) k1, fun B G0 G H σ r1 D c eo p => ?_⟩
    refine ⟨er c, hE c, fun hy a _ => ?_, fun hn => ?_⟩
    · have p' : PostF X.K W C B G0 G D (if er c = true then gs r1 else gPick l c r1) := p
      rw [if_pos hy] at p'
      exact ⟨B, G0, G, r1, eo, p'⟩
    · have p' : PostF X.K W C B G0 G D (if er c = true then gs r1 else gPick l c r1) := p
      rw [if_neg (by rw [hn]; decide)] at p'
      exact k2 B G0 G H σ r1 D c eo p'
theorem s_tryN {body : List Stmt} {h0 : ExceptHandler} {hds : List ExceptHandler} {l : List ((Er → Bool) × (En → Out Fl))} {g : En → Out Fl} (tk : L2N.Takes X W)
    (hb : ∀ (W' : WX) (pn : List (Addr × Obj)) (xe : Value → Shared → Prop), L2N.Takes (X.tr pn xe) W' → PassesOwn (model X.prog X.w) X.A X.env xe → Bd (X.tr pn xe) W' C body g)
    (hh : Hs X W C (h0 :: hds) l) (hs : X.stack = X.env :: X.outer := by rfl) (hf : X.env.frame = some X.env.locals := by rfl) :
    Sd X W C (.Try body (h0 :: hds) [] [] pos) (gTryN l g) := by
  obtain ⟨l', k1, k2⟩ := hs_many hh
  refine ⟨_, L2N.ps_try_many (tb := fun W' => canonS X.K W' C g) (Wout := W) hs hf tk (fun W' pn xe t2 p2 => (hb W' pn xe t2 p2).canon) k1, fun B G0 G H σ r D eo p => ?_⟩
  refine ⟨B, G0, G, r, eo, ?_⟩
  unfold gTryN at p
  cases hg : g r with
  | bot => rw [hg] at p; exact p
  | ok f r1 => rw [hg] at p; cases f <;> exact p
  | err c r1 =>
    rw [hg] at p
    intro σ1 G1 H1 e1 s1
    exact k2 B G0 G1 H1 σ1 r1 D c e1 (PostF.up p s1)
end
end GM

/-! ### walking a list while an exception is handled -/
namespace GM
open PySem PySem.Spec PyProof.Rows HotX L2
section
variable {prog : Program} {w : World} {A : Around} {E : Value → Shared → Prop} {s : Shared}
/-- the end of a list's iterator, an exception being handled -/
theorem next_list_end_hot {it l x1 : Addr} {i : Nat} {items : Array Value} {Q : Option Value → Shared → Prop} (hot : HotAt A x1 s.heap) (hne : x1 ≠ it) (hit : s.heap.IsListIter it l i) (hl : s.heap.IsList l items) (hx : items[i]? = none)
    (hQ : ∀ h', (∀ b o, b ≠ it → s.heap.get? b = some o → h'.get? b = some o) → Q none { s with heap := h' }) : wpAny (model prog w) A (pyNext (.ref it)) Q E s := by
  obtain ⟨hh, o1, vs1, h1, d1, c1⟩ := hot
  obtain ⟨o, ho, hc, hd⟩ := id hit
  obtain ⟨ol, hol, _, nl, hdl⟩ := hl
  unfold pyNext
  refine wpAny_bind (wpAny_attempt (wpAny_callSpecial?_slot (name := Str.ofString "__next__") hit.typeIs slot_listiter_next
    (wpAny_call_entry slot_listiter_next hit.typeIs entry_listiter_next ?_ (args_listiter_next _))))
  show wpAny _ _ (field (.ref it) 0 >>= _) _ _ s
  refine wpAny_bind (wpAny_field ho hd (x := .ref l) rfl ?_)
  show wpAny _ _ (if (Value.ref l == Value.none) = true then _ else _) _ _ s
  rw [if_neg (show ¬ ((Value.ref l == Value.none) = true) from Bool.false_ne_true)]
  show wpAny _ _ (field (.ref it) 1 >>= _) _ _ s
  refine wpAny_bind (wpAny_field ho hd (x := .int i 0) rfl ?_)
  show wpAny _ _ (seqItems? (.ref l) >>= _) _ _ s
  refine wpAny_bind (wpAny_seqItems hol hdl ?_)
  simp only [Int.toNat_natCast, hx]
  refine wpAny_bind (wpAny_rule (wpAny_bind (wpAny_setField ho hd (by simp) ?_)))
  show wpAny _ _ (newExc (.type "StopIteration") [] >>= _) _ _ _
  refine wpAny_bind ?_
  simp only [newExc, newTuple]
  refine wpAny_bind (wpAny_newObj_type ?_ (by size_fits))
  refine wpAny_bind (m := firstArgMember _ _) (wpAny_of_eq (a := Value.none) (by first | rfl | (simp only [firstArgMember]; rfl)) ?_)
  refine wpAny_newObj_type ?_ (by size_fits)
  have k1 : ∀ (b : Addr) (u : Obj) (f : Obj → Obj), b ≠ it → s.heap.get? b = some u → (s.heap.update it f).get? b = some u := fun b u f hb e => by
    rw [Heap.get?_update_other _ _ (Ne.symm hb)]
    exact e
  refine raiseNew_hot ⟨hh, o1, vs1, Heap.get?_push_of_some _ (Heap.get?_push_of_some _ (k1 x1 o1 _ hne h1)), d1, c1⟩ (Nat.ne_of_lt (Heap.lt_size (Heap.get?_push_of_some _ (k1 x1 o1 _ hne h1)))) (Heap.get?_push_size _ rfl) rfl (by first | (simp; done) | (simp; omega) | (simp only [Array.size_append]; simp; omega)) ?_
  refine wpAny_bind (wpAny_isInstance (T := "StopIteration") (b := true) ⟨_, Heap.get?_update_self _ (Heap.get?_push_size _ rfl) rfl, rfl⟩ isSubtype_stop ?_)
  refine wpAny_pure (hQ _ fun b u hb e => ?_)
  first
  | (rw [Heap.get?_update_other _ _ (Nat.ne_of_gt (Heap.lt_size (Heap.get?_push_of_some _ (k1 b u _ hb e))))]
     exact Heap.get?_push_of_some _ (Heap.get?_push_of_some _ (k1 b u _ hb e)))
end
section
variable {X : Cx} {W : WX} {C : Er → Addr} {pos : Pos} {a tg : Expr} {sts : List Stmt} {g : En → Out Fl}
theorem turn_listH {P : Program} {w : World} {K : PySem.W.Frag} {tg : Expr} (a it : Addr) : L2H.TurnH P w K tg (Itl K a) [it] it (fun i h => h.IsListIter it a i) where
  mem := by simp
  obj := fun i h st b hb => by
    have e : b = it := by simpa using hb
    subst e
    obtain ⟨o, e, c, d⟩ := st
    exact ⟨o, e, fun v z => by rw [d] at z; cases z⟩
  keep := fun i h h' st k => st.at fun o e => k it (by simp) o e
  item := by
    intro X hP hw hK hc i pins s σ H E I hf st hg
    subst hP hw hK
    obtain ⟨xs, x, hq, hx⟩ := hg
    obtain ⟨its, rv, p, hz⟩ := I.list hq
    obtain ⟨u, hu, ru⟩ := rv.get hx
    obtain ⟨f0, f1, f2, f3, f4, f5⟩ := hf it (by simp)
    refine wpAny_pyNext_list_item st p.isList (x := u) (by simpa using hu) fun h' st' sb => ?_
    have I1 : Inv X pins σ H { s with heap := h' } := I.turned (t' := s.toks) (fun b o hb e => (sb.2 b hb).trans e) f0 f1 f3 f4 f5
    obtain ⟨o, e, c, d⟩ := id st'
    exact ⟨u, rfl, go_of (s := { s with heap := h' }) e c d (by decide) ⟨x, H, I1, ru, ⟨rfl, fun ys hy => by rw [I.list_inj hy hq]; exact hx⟩, st', fun b hb => (hf b hb).1⟩⟩
  done := by
    intro X hP hw hK hc i pins s σ H E I hf st hg
    subst hP hw hK
    obtain ⟨xs, hq, hx⟩ := hg
    obtain ⟨its, rv, p, hz⟩ := I.list hq
    obtain ⟨f0, f1, f2, f3, f4, f5⟩ := hf it (by simp)
    have hl := rv.length
    obtain ⟨q, ⟨hh, v1, e1, c1⟩, hq1⟩ := hc
    have P1 := I.pin q (List.mem_append_left _ hq1)
    exact next_list_end_hot ⟨hh, q.2, v1, P1.1, e1, c1⟩ (f5 q (List.mem_append_left _ hq1)) st p.isList (by simp; omega) fun h' eb => ⟨rfl, I.turned (t' := s.toks) (fun b o hb e => eb b o hb e) f0 f1 f3 f4 f5⟩
  self := fun _ _ _ _ _ st h => wpAny_pyIter_listiter st h
theorem pih_list {l : Expr} {tl : TE} (hl : PE X l tl) : L2H.PIH X tg l (iList X.K tl) := by
  refine ⟨fun pins s σ H R I h => ?_⟩
  refine thn (hl.run pins s σ H _ I h) fun v s1 ⟨x, H1, I1, r1, q1⟩ => ?_
  obtain ⟨a, e, ⟨xs, hq⟩, q⟩ := q1
  subst e
  cases r1
  obtain ⟨its, rv, p, hz⟩ := I1.list hq
  refine wpAny_pyIter_list p.isList ?_
  refine ⟨s1.heap.objs.size, [s1.heap.objs.size], _, _, H1, rfl, I1.kept (t' := s1.toks) fun b o e => Heap.get?_push_of_some _ e, turn_listH a _, ⟨_, Heap.get?_push_size _ rfl, rfl, rfl⟩, fun b hb => ?_, q⟩
  have e : b = s1.heap.objs.size := by simpa using hb
  subst e
  exact I1.fpOk (Nat.le_refl _) (I1.hok.fresh (Nat.le_refl _))
structure IdH (X : Cx) (W : WX) (C : Er → Addr) (tg iter : Expr) (t : En → Out (List PyData)) : Prop where
  ex : ∃ wi, L2H.PIH X tg iter wi ∧ GM.J X W C rW wi t
theorem iH_list {t : En → Out PyData} (ha : Ed X W C a t) : IdH X W C tg a (iLst t) := by
  obtain ⟨ea, a1, a2⟩ := ha.ex
  refine ⟨_, pih_list a1, ?_⟩
  refine j_op1 (R := rW) (rop := fun x H R => ∃ a, x = .ref a ∧ (∃ xs, SqL X.K H a xs) ∧ R (Itl X.K a) H) a2 fun B G0 G H σ r x d s Q eo hx hf q => ?_
  cases hx with
  | lst h1 h2 =>
    cases hf
    exact ⟨_, rfl, ⟨_, eo.gh.seq h1⟩, q _ G H eo (Same.refl G) (wk_list h1 h2)⟩
  | _ => cases hf
theorem s_forH {it : Expr} {t : En → Out (List PyData)} {gt : PyData → En → Option En} {ss : List Nat} (hp : PassesOwn (model X.prog X.w) X.A X.env X.xe) (hc : L2H.HotC X) (hi : IdH X W C tg it t) (hg : Gd X tg gt ss) (hb : Bd X W C sts g)
    (hs : ∀ x, foldedSetIterable it X.env x = pure x := by intro _; rfl) : Sd X W C (.For tg it sts [] pos) (gFor t gt g) := by
  obtain ⟨wi, i1, i2⟩ := hi.ex
  obtain ⟨gg, g1, g2⟩ := hg.ex
  obtain ⟨tb, b1, b2⟩ := hb.ex
  refine ⟨_, L2H.ps_forH hp hc i1 g1 b1 hs, fun B G0 G H σ r D eo p => i2 B G0 G H σ r _ eo ?_⟩
  refine PostF.bind (R := rW) p fun ds r1 J G1 H1 e1 s1 hw q => ?_
  refine ⟨fun i m σ' H' => m = ds.length - i ∧ ∃ G' r', EO X.K B G0 G' H' σ' r' ∧ Same G1 G' ∧ PostF X.K W C B G0 G' D (forL gt g (ds.drop i) r'), ⟨_, rfl, G1, r1, e1, Same.refl G1, q⟩, ?_⟩
  rintro i m σ' H' ⟨rfl, G', r', e', s', q'⟩
  have sg := s'.trans e'.gh
  by_cases hi : i < ds.length
  · refine .inr ⟨hw.go i H' sg hi, fun σ2 H2 => ∃ G' r', EO X.K B G0 G' H2 σ2 r' ∧ Same G1 G' ∧ PostF X.K W C B G0 G' D (forL gt g (ds.drop (i + 1)) r'), fun σ2 H2 h2 => ⟨ds.length - (i + 1), by omega, rfl, h2⟩, fun x H2 hy => ?_⟩
    obtain ⟨d, G2, hd, e2, s2, hx, _⟩ := hw.yld i x B G0 G' H' H2 σ' r' e' s' hy hi
    have hdr : ds.drop i = d :: ds.drop (i + 1) := by
      rw [List.getElem?_eq_getElem hi] at hd
      cases hd
      exact List.drop_eq_getElem_cons hi
    rw [hdr, forL] at q'
    cases hgt : gt d r' with
    | none => rw [hgt] at q'; exact q'.elim
    | some r2 =>
      rw [hgt] at q'
      simp only at q'
      refine g2 B G0 G2 H2 σ' r' r2 x d _ e2 hx hgt fun σ3 e3 _ => b2 B G0 G2 H2 σ3 r2 _ e3 ?_
      cases hgr : g r2 with
      | bot => rw [hgr] at q'; exact q'
      | err c r3 => rw [hgr] at q'; exact fun σ4 G4 H4 e4 s4 => q' σ4 G4 H4 e4 (s2.trans s4)
      | ok f r3 =>
        rw [hgr] at q'
        cases f with
        | nx => exact fun σ4 G4 H4 e4 s4 => ⟨G4, r3, e4, (s'.trans s2).trans s4, PostF.up q' (s2.trans s4)⟩
        | ct => exact fun σ4 G4 H4 e4 s4 => ⟨G4, r3, e4, (s'.trans s2).trans s4, PostF.up q' (s2.trans s4)⟩
        | bk => exact fun σ4 G4 H4 e4 s4 => q' σ4 G4 H4 e4 (s2.trans s4)
        | rt s => exact ⟨rfl, fun v G4 H4 e4 s4 => q'.2 v G4 H4 e4 (s2.trans s4)⟩
  · have hle : ds.length ≤ i := by omega
    refine .inl ⟨hw.stop i H' sg hle, ?_⟩
    rw [List.drop_eq_nil_of_le hle] at q'
    exact q' σ' G' H' e' (Same.refl G')
end
end GM

/-! ### comprehensions while an exception is handled -/
namespace GM
open PySem PySem.Spec PyProof.Rows HotX L2
/-- the handled exception stood already where the context starts, untracked, its context None -/
def HotB (X : Cx) : Prop := ∃ (x1 : Addr) (o : Obj) (vs : Array Value), X.A.handled = some (.ref x1) ∧ X.s_0.heap.get? x1 = some o ∧ o.data = .fields vs ∧ vs[2]? = some .none ∧ X.H_0 x1 = none ∧ x1 ∉ X.fs ∧ x1 ∉ X.ex
theorem HotB.at {X : Cx} {pins : List (Addr × Obj)} {σ : L2.St} {H : Hp} {s : Shared} {it : Addr} (c : HotB X) (I : Inv X pins σ H s) (f : it ∈ X.ex ∨ X.s_0.heap.objs.size ≤ it) : ∃ x1, HotAt X.A x1 s.heap ∧ x1 ≠ it := by
  obtain ⟨x1, o, vs, h1, h2, h3, h4, h5, h6, h7⟩ := c
  refine ⟨x1, ⟨h1, o, vs, I.base.keep x1 o h2 h5 h6 h7, h3, h4⟩, fun z => ?_⟩
  subst z
  rcases f with f | f
  · exact h7 f
  · exact absurd (Nat.lt_of_lt_of_le (Heap.lt_size h2) f) (Nat.lt_irrefl _)
structure TurnB (P : Program) (w : World) (K : PySem.W.Frag) (tg : Expr) (J : It) (fp : List Addr) (it : Addr) (tn : Nat → Heap → Prop) : Prop where
  mem : it ∈ fp
  obj : ∀ i h, tn i h → ∀ b ∈ fp, ∃ o, h.get? b = some o ∧ ∀ v, o.data ≠ .cell v
  keep : ∀ i h h', tn i h → (∀ b ∈ fp, ∀ o, h.get? b = some o → h'.get? b = some o) → tn i h'
  item : ∀ (X : Cx), X.prog = P → X.w = w → X.K = K → HotB X → ∀ (i : Nat) (pins : List (Addr × Obj)) (s : Shared) (σ : L2.St) (H : Hp) (E : Value → Shared → Prop), Inv X pins σ H s → (∀ b ∈ fp, FpOk X pins H b) → tn i s.heap → J.go i H →
    wpAny (model P w) X.A (pyNext (.ref it)) (fun r s1 => ∃ u, r = some u ∧
      wpAny (model P w) X.A (letOwnedTupleGo tg (.ref it) u) (fun _ s2 => ∃ x H', Inv X pins σ H' s2 ∧ RelV x u ∧ J.yld i H x H' ∧ tn (i + 1) s2.heap ∧ ∀ b ∈ fp, H' b = none) E s1) E s
  done : ∀ (X : Cx), X.prog = P → X.w = w → X.K = K → HotB X → ∀ (i : Nat) (pins : List (Addr × Obj)) (s : Shared) (σ : L2.St) (H : Hp) (E : Value → Shared → Prop), Inv X pins σ H s → (∀ b ∈ fp, FpOk X pins H b) → tn i s.heap → J.stop i H →
    wpAny (model P w) X.A (pyNext (.ref it)) (fun r s1 => r = none ∧ Inv X pins σ H s1) E s
  self : ∀ (A : Around) (i : Nat) (s : Shared) (Q : Value → Shared → Prop) (E : Value → Shared → Prop), tn i s.heap → Q (.ref it) s → wpAny (model P w) A (pyIter (.ref it)) Q E s
theorem turn_listB {P : Program} {w : World} {K : PySem.W.Frag} {tg : Expr} (a it : Addr) : TurnB P w K tg (Itl K a) [it] it (fun i h => h.IsListIter it a i) where
  mem := (turn_listH (P := P) (w := w) (K := K) (tg := tg) a it).mem
  obj := (turn_listH (P := P) (w := w) (K := K) (tg := tg) a it).obj
  keep := (turn_listH (P := P) (w := w) (K := K) (tg := tg) a it).keep
  item := by
    intro X hP hw hK hc i pins s σ H E I hf st hg
    subst hP hw hK
    obtain ⟨xs, x, hq, hx⟩ := hg
    obtain ⟨its, rv, p, hz⟩ := I.list hq
    obtain ⟨u, hu, ru⟩ := rv.get hx
    obtain ⟨f0, f1, f2, f3, f4, f5⟩ := hf it (by simp)
    refine wpAny_pyNext_list_item st p.isList (x := u) (by simpa using hu) fun h' st' sb => ?_
    have I1 : Inv X pins σ H { s with heap := h' } := I.turned (t' := s.toks) (fun b o hb e => (sb.2 b hb).trans e) f0 f1 f3 f4 f5
    obtain ⟨o, e, c, d⟩ := id st'
    exact ⟨u, rfl, go_of (s := { s with heap := h' }) e c d (by decide) ⟨x, H, I1, ru, ⟨rfl, fun ys hy => by rw [I.list_inj hy hq]; exact hx⟩, st', fun b hb => (hf b hb).1⟩⟩
  done := by
    intro X hP hw hK hc i pins s σ H E I hf st hg
    subst hP hw hK
    obtain ⟨xs, hq, hx⟩ := hg
    obtain ⟨its, rv, p, hz⟩ := I.list hq
    obtain ⟨f0, f1, f2, f3, f4, f5⟩ := hf it (by simp)
    have hl := rv.length
    obtain ⟨x1, hot, hne⟩ := hc.at I f3
    exact next_list_end_hot hot hne st p.isList (by simp; omega) fun h' eb => ⟨rfl, I.turned (t' := s.toks) (fun b o hb e => eb b o hb e) f0 f1 f3 f4 f5⟩
  self := (turn_listH (P := P) (w := w) (K := K) (tg := tg) a it).self
def PIEB (X : Cx) (pins : List (Addr × Obj)) (σ : L2.St) (tg : Expr) (R : It → Hp → Prop) (itv : Value) (s2 : Shared) : Prop :=
  ∃ (it : Addr) (fp : List Addr) (tn : Nat → Heap → Prop) (J : It) (H' : Hp), itv = .ref it ∧ Inv X pins σ H' s2 ∧ TurnB X.prog X.w X.K tg J fp it tn ∧ tn 0 s2.heap ∧ (∀ b ∈ fp, FpOk X pins H' b) ∧ R J H'
structure PIB (X : Cx) (tg iter : Expr) (wi : TI) : Prop where
  run : ∀ (pins : List (Addr × Obj)) (s : Shared) (σ : L2.St) (H : Hp) (R : It → Hp → Prop), Inv X pins σ H s → wi σ H R →
    wpAny (model X.prog X.w) X.A (eval iter X.env) (fun v s1 => wpAny (model X.prog X.w) X.A (pyIter v) (PIEB X pins σ tg R) X.xe s1) X.xe s
theorem pib_list {X : Cx} {tg l : Expr} {tl : TE} (hl : PE X l tl) : PIB X tg l (iList X.K tl) := by
  refine ⟨fun pins s σ H R I h => ?_⟩
  refine thn (hl.run pins s σ H _ I h) fun v s1 ⟨x, H1, I1, r1, q1⟩ => ?_
  obtain ⟨a, e, ⟨xs, hq⟩, q⟩ := q1
  subst e
  cases r1
  obtain ⟨its, rv, p, hz⟩ := I1.list hq
  refine wpAny_pyIter_list p.isList ?_
  refine ⟨s1.heap.objs.size, [s1.heap.objs.size], _, _, H1, rfl, I1.kept (t' := s1.toks) fun b o e => Heap.get?_push_of_some _ e, turn_listB a _, ⟨_, Heap.get?_push_size _ rfl, rfl, rfl⟩, fun b hb => ?_, q⟩
  have e : b = s1.heap.objs.size := by simpa using hb
  subst e
  exact I1.fpOk (Nat.le_refl _) (I1.hok.fresh (Nat.le_refl _))
/-- a block that starts where the handled exception is pinned -/
theorem hotB_blk {X : Cx} {pins : List (Addr × Obj)} {σ : L2.St} {H : Hp} {s : Shared} {scope : Scope} {cenv : Env} {fp : List Addr} (c : L2H.HotC X) (I : Inv X pins σ H s) (hfp : ∀ b ∈ fp, FpOk X pins H b) : HotB (X.blk s H scope cenv fp) := by
  obtain ⟨p, ⟨hh, v1, e1, c1⟩, hp⟩ := c
  obtain ⟨q1, q2, q3, q4, q5⟩ := I.pin p (List.mem_append_left _ hp)
  refine ⟨p.1, p.2, v1, hh, q1, e1, c1, q2, fun hm => ?_, fun hm => ?_⟩
  · exact (List.mem_cons.mp (I.stkSub p.1 hm)).elim q3 q4
  · exact (hfp p.1 hm).2.2.2.2.2 p (List.mem_append_left _ hp) rfl
section
variable {X : Cx} {elt tg iter : Expr} {ifs : List Expr} {scope : Scope} {own : List (Str × Nat)} {pos : Pos} {tl : TE} {g : TG} {tt : TT} {te : TE}
/-- one state of the block's loop: the place in the list, the heap as tracked, the measure -/
def LcAt (X : Cx) (σb : L2.St) (a it : Addr) (W : Nat → Nat → Hp → Prop) (n : Nat) (s : Shared) : Prop := ∃ i H, Inv X [] σb H s ∧ s.heap.IsListIter it a i ∧ H it = none ∧ W i n H
/-- the iterator's object in a block -/
theorem fp_blk {s0 : Shared} {H0 : Hp} {ce : Env} {it : Addr} {σ' : L2.St} {H' : Hp} {s' : Shared} (I : Inv (X.blk s0 H0 scope ce [it]) [] σ' H' s') (hn : H' it = none) : FpOk (X.blk s0 H0 scope ce [it]) [] H' it :=
  ⟨hn, (I.ok.exf it (by simp)).1, I.ok.exfs it (by simp), .inl (by simp), fun x c e => (I.ok.exf it (by simp)).2 x c e, fun p hp => absurd (show p ∈ ([] : List (Addr × Obj)) ++ [] from hp) (by simp)⟩
theorem pe_lcH (hc : L2H.HotC X) (hN : X.N.Nodup) (hl : PE X iter tl) (ok : BlkOk X.N X.env.scope scope own)
    (hg : ∀ (s : Shared) (H : Hp) (C : Addr) (cl : List (Str × Addr)) (fp : List Addr), HotB (X.blk s H scope (compEnvC scope cl C X.env) fp) → PG (X.blk s H scope (compEnvC scope cl C X.env) fp) tg g) (ht : ∀ (s : Shared) (H : Hp) (C : Addr) (cl : List (Str × Addr)) (fp : List Addr), PTs (X.blk s H scope (compEnvC scope cl C X.env) fp) ifs tt)
    (he : ∀ (s : Shared) (H : Hp) (C : Addr) (cl : List (Str × Addr)) (fp : List Addr), PE (X.blk s H scope (compEnvC scope cl C X.env) fp) elt te) (hs : ∀ x, foldedSetIterable iter X.env x = pure x := by intro _; rfl) :
    PE X (.ListComp elt [⟨tg, iter, ifs, 0⟩] scope pos) (tLc (iList X.K tl) g tt te (own.map (·.2))) := by
  refine ⟨fun pins s σ H Q I h => ?_⟩
  rw [eval_ListComp]
  have fr : ∀ y ∈ scope.names, y.2 = .free → ∃ c, X.env.cells.lookup y.1 = some c := fun y hy e => (ok.free y hy e).elim (fun k => I.ok.has _ (.inl k)) fun k => I.ok.has _ (.inr k)
  refine wpAny_comprehension_free (use := none) rfl hs (closure_ok fr) ok.kind (fun y hy e => by rw [ok.uniq y hy, e]) (thn (hl.run pins s σ H _ I h) fun v s1 hv => ?_)
  obtain ⟨x, H1, I1, rx, a, ex, ⟨xs, hq⟩, q⟩ := hv
  subst ex
  cases rx
  obtain ⟨its, rv, pl, hz⟩ := I1.list hq
  refine wpAny_pyIter_list pl.isList ?_
  refine wpAny_newObj_type (newEnv_comp ?_) (by show 0 ≤ sizeLine; decide)
  -- the iterator, the new list
  generalize hs2 : ({ s1 with heap := s1.heap.push _ } : Shared) = s2
  have I2 : Inv X pins σ H1 s2 := by rw [← hs2]; exact I1.kept (t' := s1.toks) fun b o e => Heap.get?_push_of_some _ e
  have fI : FpOk X pins H1 s1.heap.objs.size := I1.fpOk (Nat.le_refl _) (I1.hok.fresh (Nat.le_refl _))
  have st2 : s2.heap.IsListIter s1.heap.objs.size a 0 := by rw [← hs2]; exact ⟨_, Heap.get?_push_size _ rfl, rfl, rfl⟩
  generalize s1.heap.objs.size = it at st2 fI ⊢
  have zI : it < s2.heap.objs.size := by obtain ⟨o, e, _⟩ := id st2; exact Heap.lt_size e
  have nI : it ≠ s2.heap.objs.size := Nat.ne_of_lt zI
  obtain ⟨W, ⟨m0, w0⟩, turn⟩ := q s2.heap.objs.size (I2.hok.fresh (Nat.le_refl _))
  generalize hs3 : ({ s2 with heap := s2.heap.push { cls := .type "list", data := .seq ([] : List Value).toArray } } : Shared) = s3
  have I3 : Inv X pins σ (upd H1 s2.heap.objs.size (.lst [])) s3 := by
    rw [← hs3]
    exact I2.laid (t' := s2.toks) (fun b o e => Heap.get?_push_of_some _ e) (Nat.le_refl _) ⟨Nat.zero_le _, [], 0, .nil, Heap.get?_push_size _ rfl⟩
  have st3 : s3.heap.IsListIter it a 0 := st2.at fun o e => by rw [← hs3]; exact Heap.get?_push_of_some _ e
  have f3 : ∀ b ∈ [it], FpOk X pins (upd H1 s2.heap.objs.size (.lst [])) b ∧ b < s3.heap.objs.size := fun b hb => by
    obtain rfl : b = it := by simpa using hb
    refine ⟨⟨by rw [upd_ne nI]; exact fI.1, fI.2⟩, by rw [← hs3]; show b < (s2.heap.push _).objs.size; rw [Heap.size_push]; exact Nat.lt_succ_of_lt zI⟩
  generalize s2.heap.objs.size = D at *
  generalize upd H1 D (.lst []) = H3 at *
  have I4 := block_start I3 ok hN f3
  have hb : ∀ (ce : Env), HotB (X.blk s3 H3 scope ce [it]) := fun ce => hotB_blk hc I3 fun b hb => (f3 b hb).1
  have pg := hg s3 H3 s3.heap.objs.size (cellsFrom (s3.heap.objs.size + 1) scope.names (cloFrom X.env.cells scope.names [])) [it] (hb _)
  have pt := ht s3 H3 s3.heap.objs.size (cellsFrom (s3.heap.objs.size + 1) scope.names (cloFrom X.env.cells scope.names [])) [it]
  have pe := he s3 H3 s3.heap.objs.size (cellsFrom (s3.heap.objs.size + 1) scope.names (cloFrom X.env.cells scope.names [])) [it]
  have st4 : ({ s3 with heap := pushCells (s3.heap.push { cls := .type "dict", data := .dict #[] }) scope.names } : Shared).heap.IsListIter it a 0 := st3.at fun o e => pushCells_keeps _ _ _ _ (Heap.get?_push_of_some _ e)
  show codeAny _ _ (.compStart (.ListComp elt [⟨tg, iter, ifs, 0⟩] scope pos) 0 (.ref it) (.ref D) (compEnvC scope (cellsFrom (s3.heap.objs.size + 1) scope.names (cloFrom X.env.cells scope.names [])) s3.heap.objs.size X.env)) (compPost (model X.prog X.w) X.A X.xe none _ (.ref D) s3.heap.objs.size) { s3 with heap := pushCells (s3.heap.push { cls := .type "dict", data := .dict #[] }) scope.names }
  generalize hce : compEnvC scope (cellsFrom (s3.heap.objs.size + 1) scope.names (cloFrom X.env.cells scope.names [])) s3.heap.objs.size X.env = ce at I4 pg pt pe ⊢
  generalize ({ s3 with heap := pushCells (s3.heap.push { cls := .type "dict", data := .dict #[] }) scope.names } : Shared) = s4 at I4 st4 ⊢
  have cL : ce.locals = s3.heap.objs.size := by subst hce; rfl
  have n3 : H3 it = none := (f3 it (by simp)).1.1
  have loop : codeAny (model X.prog X.w) X.A (.compLoop (.ListComp elt [⟨tg, iter, ifs, 0⟩] scope pos) 0 (.ref it) (.ref D) ce) (compPost (model X.prog X.w) X.A X.xe none (EP X pins σ Q) (.ref D) s3.heap.objs.size) s4 := by
    refine compLoop_any (LcAt (X.blk s3 H3 scope ce [it]) (wipe σ (own.map (·.2))) a it W) ?_ m0 ⟨0, H3, I4, st4, n3, w0⟩
    rintro n s5 ⟨i, H5, I5, st5, n5, w5⟩
    have ff := fp_blk I5 n5
    rcases turn i n H5 w5 with ⟨⟨ys, hys, hle⟩, qq⟩ | ⟨⟨ys, y, hys, hy⟩, Nx, hNx, step⟩
    · -- behind the last item: back in the def's context
      obtain ⟨its5, rv5, pl5, _⟩ := I5.list hys
      obtain ⟨x1, hot, hne⟩ := (hb ce).at I5 ff.2.2.2.1
      have hl5 := rv5.length
      refine next_list_end_hot hot hne st5 pl5.isList (by simp; omega) fun h' eb => ?_
      have I6 : Inv (X.blk s3 H3 scope ce [it]) [] (wipe σ (own.map (·.2))) H5 { s5 with heap := h' } := I5.turned (t' := s5.toks) (fun b o hb e => eb b o hb e) ff.1 ff.2.1 ff.2.2.2.1 ff.2.2.2.2.1 ff.2.2.2.2.2
      have I7 : Inv X pins σ H5 { s5 with heap := h' } := I3.call' (ch := [it]) I6.os I6.base I6.hok I6.bare fun b hb => ⟨(f3 b hb).1.2.2.2.1, (f3 b hb).1.2.1, (f3 b hb).1.2.2.2.2.1, (f3 b hb).1.2.2.2.2.2⟩
      have nC : H5 s3.heap.objs.size = none := by
        have z : H5 ce.locals = none := I6.free
        rw [cL] at z
        exact z
      obtain ⟨m, hn, _⟩ := I6.loc
      have hn : ({ s5 with heap := h' } : Shared).heap.Ns ce.locals m := hn
      rw [cL] at hn
      obtain ⟨g0, g1, g2, g3, g4, g5⟩ := I3.fpOk (H' := H5) (Nat.le_refl _) nC
      exact ⟨m, hn, fun h'' sb => ⟨.ref D, H5, I7.turned (t' := s5.toks) (fun b o hb e => (sb.2 b hb).trans e) g0 g1 g3 g4 g5, rfl, qq⟩⟩
    · -- one more item
      obtain ⟨its5, rv5, pl5, _⟩ := I5.list hys
      obtain ⟨u, hu, ru⟩ := rv5.get hy
      refine wpAny_pyNext_list_item st5 pl5.isList (x := u) (by simpa using hu) fun h' st' sb => ?_
      have I6 : Inv (X.blk s3 H3 scope ce [it]) [] (wipe σ (own.map (·.2))) H5 { s5 with heap := h' } := I5.turned (t' := s5.toks) (fun b o hb e => (sb.2 b hb).trans e) ff.1 ff.2.1 ff.2.2.2.1 ff.2.2.2.2.1 ff.2.2.2.2.2
      obtain ⟨o, e, c, d⟩ := id st'
      refine go_of (s := { s5 with heap := h' }) e c d (by decide) ?_
      have I6' := I6.pinned (fp := [it]) (fun b hb => by
        obtain rfl : b = it := by simpa using hb
        exact fp_blk I6 n5) (fun b hb => by
        obtain rfl : b = it := by simpa using hb
        exact ⟨o, e, fun v z => by rw [d] at z; cases z⟩)
      refine thnF (pg.run _ _ _ H5 y u _ I6' ru (step y H5 ⟨rfl, fun zs hzs => by rw [I5.list_inj hzs hys]; exact hy⟩)) fun _ s8 ⟨σ8, H8, I8, hw8, q8⟩ => ?_
      refine thnF (pt.run _ s8 σ8 H8 _ I8 q8) fun b s9 ⟨H9, I9, q9⟩ => ?_
      have fin : ∀ {s' : Shared} {H' : Hp}, Inv (X.blk s3 H3 scope ce [it]) ([] ++ pinsAt [it] h') σ8 H' s' → Nx H' → ∃ m, m < n ∧ LcAt (X.blk s3 H3 scope ce [it]) (wipe σ (own.map (·.2))) a it W m s' := fun {s' H'} I' nx => by
        obtain ⟨m', hm, w'⟩ := hNx H' nx
        have z := I'.pin (it, o) (List.mem_append_right _ (List.mem_append_right _ (mem_pinsAt (by simp) e)))
        have hl8 : (wipe σ (own.map (·.2))).length = σ8.length := by rw [← hw8, wipe_length]
        exact ⟨m', hm, i + 1, H', (I'.unpinned (pins := [])).weak hl8 (fun j v e => by rw [← hw8] at e; exact (wipe_some e).1), ⟨o, z.1, c, d⟩, z.2.1, w'⟩
      cases b with
      | false =>
        simp only [Bool.false_eq_true, if_false] at q9 ⊢
        exact fin I9 q9
      | true =>
        simp only [if_true] at q9 ⊢
        refine thnF (pe.run _ s9 σ8 H9 _ I9 q9) fun zv s10 ⟨yv, H10, I10, r10, acc, hD10, hz10, nx⟩ => ?_
        exact app_ok (X := X.blk s3 H3 scope ce [it]) I10 hD10 hz10 r10 fun s11 I11 => fin I11 nx
  exact codeAny_compStart_list loop (wpAny_pyIter_listiter st4 loop)
variable {W : WX} {C : Er → Addr} {a : Expr}
/-- what is walked is a list, the reading told -/
structure IdL (X : Cx) (W : WX) (C : Er → Addr) (iter : Expr) (t : En → Out (List PyData)) : Prop where
  ex : ∃ tl, PE X iter tl ∧ GM.J X W C rW (iList X.K tl) t
theorem iL_list {t : En → Out PyData} (ha : Ed X W C a t) : IdL X W C a (iLst t) := by
  obtain ⟨ea, a1, a2⟩ := ha.ex
  refine ⟨_, a1, ?_⟩
  refine j_op1 (R := rW) (rop := fun x H R => ∃ a, x = .ref a ∧ (∃ xs, SqL X.K H a xs) ∧ R (Itl X.K a) H) a2 fun B G0 G H σ r x d s Q eo hx hf q => ?_
  cases hx with
  | lst h1 h2 =>
    cases hf
    exact ⟨_, rfl, ⟨_, eo.gh.seq h1⟩, q _ G H eo (Same.refl G) (wk_list h1 h2)⟩
  | _ => cases hf
theorem s_lcH {ss : List Nat} {t : En → Out (List PyData)} {gt : PyData → En → Option En} {gtt : En → Out Bool} {gte : En → Out PyData} (hc : L2H.HotC X) (hN : X.N.Nodup) (hi : IdL X W C iter t) (ok : BlkOk X.N X.env.scope scope own)
    (hg : ∀ (s : Shared) (H : Hp) (a : Addr) (cl : List (Str × Addr)) (fp : List Addr), HotB (X.blk s H scope (compEnvC scope cl a X.env) fp) → Gd (X.blk s H scope (compEnvC scope cl a X.env) fp) tg gt ss) (ht : ∀ (s : Shared) (H : Hp) (a : Addr) (cl : List (Str × Addr)) (fp : List Addr), Ts (X.blk s H scope (compEnvC scope cl a X.env) fp) (fun _ _ _ _ => False) C ifs gtt)
    (he : ∀ (s : Shared) (H : Hp) (a : Addr) (cl : List (Str × Addr)) (fp : List Addr), Ed (X.blk s H scope (compEnvC scope cl a X.env) fp) (fun _ _ _ _ => False) C elt gte) (hsub : ∀ i ∈ ss, i ∈ own.map (·.2) := by decide) (hs : ∀ x, foldedSetIterable iter X.env x = pure x := by intro _; rfl) :
    Es X W C (.ListComp elt [⟨tg, iter, ifs, 0⟩] scope pos) (dLc t gt gtt gte (own.map (·.2))) := by
  obtain ⟨tl, i1, i2⟩ := hi.ex
  exact ⟨_, pe_lcH hc hN i1 ok (fun s H a cl fp hb => (hg s H a cl fp hb).canon) (fun s H a cl fp => (ht s H a cl fp).canon) (fun s H a cl fp => (he s H a cl fp).canon) hs, lc_read hsub i2⟩
end
end GM

/-! ### a tuple taken apart while an exception is handled -/
namespace GM
open PySem PySem.Spec PyProof.Rows HotX L2
section
variable {prog : Program} {w : World} {A : Around} {E : Value → Shared → Prop} {s : Shared}
/-- the end of a tuple's iterator, an exception being handled -/
theorem next_tuple_end_hot {it l x1 : Addr} {i : Nat} {items : Array Value} {Q : Option Value → Shared → Prop} (hot : HotAt A x1 s.heap) (hne : x1 ≠ it) (hit : IsTupIter s.heap it l i) (hl : IsTup s.heap l items) (hx : items[i]? = none)
    (hQ : ∀ h', (∀ b o, b ≠ it → s.heap.get? b = some o → h'.get? b = some o) → Q none { s with heap := h' }) : wpAny (model prog w) A (pyNext (.ref it)) Q E s := by
  obtain ⟨hh, o1, vs1, h1, d1, c1⟩ := hot
  obtain ⟨o, ho, hc, hd⟩ := id hit
  obtain ⟨ol, hol, _, nl, hdl⟩ := hl
  unfold pyNext
  refine wpAny_bind (wpAny_attempt (wpAny_callSpecial?_slot (name := Str.ofString "__next__") hit.typeIs F.slot_tuple_iterator_next
    (wpAny_call_entry F.slot_tuple_iterator_next hit.typeIs F.entry_tuple_iterator_next ?_ (F.args_tuple_iterator_next_1 _))))
  show wpAny _ _ (field (.ref it) 0 >>= _) _ _ s
  refine wpAny_bind (wpAny_field ho hd (x := .ref l) rfl ?_)
  show wpAny _ _ (if (Value.ref l == Value.none) = true then _ else _) _ _ s
  rw [if_neg (show ¬ ((Value.ref l == Value.none) = true) from Bool.false_ne_true)]
  show wpAny _ _ (field (.ref it) 1 >>= _) _ _ s
  refine wpAny_bind (wpAny_field ho hd (x := .int i 0) rfl ?_)
  show wpAny _ _ (seqItems? (.ref l) >>= _) _ _ s
  refine wpAny_bind (wpAny_seqItems hol hdl ?_)
  simp only [Int.toNat_natCast, hx]
  refine wpAny_bind (wpAny_rule (wpAny_bind (wpAny_setField ho hd (by simp) ?_)))
  show wpAny _ _ (newExc (.type "StopIteration") [] >>= _) _ _ _
  refine wpAny_bind ?_
  simp only [newExc, newTuple]
  refine wpAny_bind (wpAny_newObj_type ?_ (by size_fits))
  refine wpAny_bind (m := firstArgMember _ _) (wpAny_of_eq (a := Value.none) (by first | rfl | (simp only [firstArgMember]; rfl)) ?_)
  refine wpAny_newObj_type ?_ (by size_fits)
  have k1 : ∀ (b : Addr) (u : Obj) (f : Obj → Obj), b ≠ it → s.heap.get? b = some u → (s.heap.update it f).get? b = some u := fun b u f hb e => by
    rw [Heap.get?_update_other _ _ (Ne.symm hb)]
    exact e
  refine raiseNew_hot ⟨hh, o1, vs1, Heap.get?_push_of_some _ (Heap.get?_push_of_some _ (k1 x1 o1 _ hne h1)), d1, c1⟩ (Nat.ne_of_lt (Heap.lt_size (Heap.get?_push_of_some _ (k1 x1 o1 _ hne h1)))) (Heap.get?_push_size _ rfl) rfl (by first | (simp; done) | (simp; omega) | (simp only [Array.size_append]; simp; omega)) ?_
  refine wpAny_bind (wpAny_isInstance (T := "StopIteration") (b := true) ⟨_, Heap.get?_update_self _ (Heap.get?_push_size _ rfl) rfl, rfl⟩ isSubtype_stop ?_)
  refine wpAny_pure (hQ _ fun b u hb e => ?_)
  first
  | (rw [Heap.get?_update_other _ _ (Nat.ne_of_gt (Heap.lt_size (Heap.get?_push_of_some _ (k1 b u _ hb e))))]
     exact Heap.get?_push_of_some _ (Heap.get?_push_of_some _ (k1 b u _ hb e)))
/-- the items of a tuple, one by one, to the end -/
theorem items_tuple_hot {t x1 : Addr} {items : Array Value} {Q : List Value → Shared → Prop} (hot : HotAt A x1 s.heap) (ht : IsTup s.heap t items)
    (hQ : ∀ h', (∀ b o, s.heap.get? b = some o → h'.get? b = some o) → Q items.toList { s with heap := h' }) : wpAny (model prog w) A (unpackItems (.ref t) items.size none) Q E s := by
  obtain ⟨hh, o1, vs1, h1, d1, c1⟩ := hot
  have nt : t ≠ s.heap.objs.size := by obtain ⟨o, ho, _⟩ := ht; exact Nat.ne_of_lt (Heap.lt_size ho)
  have nx : x1 ≠ s.heap.objs.size := Nat.ne_of_lt (Heap.lt_size h1)
  unfold unpackItems
  refine wpAny_bind ?_
  unfold notIterableAtAll
  refine wpAny_bind (wpAny_specialOf ht.typeIs slot_tuple_iter.lookup (wpAny_pure ?_))
  simp only [Bool.false_eq_true, if_false]
  refine wpAny_bind (wpAny_holding (iter_tuple ht (wpAny_bind (wpAny_holding (draw_tuple nt items.size 0 _ _ ⟨_, Heap.get?_push_size _ rfl, rfl, rfl⟩ (ht.push _) (by omega) fun h2 i2 e2 => ?_)))))
  have all : List.take items.size (List.drop 0 items.toList) = items.toList := by
    rw [List.drop_zero]
    exact List.take_of_length_le (by simp)
  rw [all, if_neg (by simp)]
  refine wpAny_bind (wpAny_holding (next_tuple_end_hot ⟨hh, o1, vs1, e2.extBut x1 o1 nx (Heap.get?_push_of_some _ h1), d1, c1⟩ nx i2 ((ht.push _).extBut e2.extBut nt) (by simp) fun h3 e3 => ?_))
  simp only [Option.isSome_none, Bool.false_eq_true, if_false]
  refine wpAny_pure (hQ h3 fun b o e => ?_)
  have nb : b ≠ s.heap.objs.size := Nat.ne_of_lt (Heap.lt_size e)
  exact e3 b o nb (e2.extBut b o nb (Heap.get?_push_of_some _ e))
end
section
variable {X : Cx} {pos : Pos}
theorem pg_tupH {es : List Expr} {k : Nat} {t : TGs} {n : Nat} (hc : HotB X ∨ L2H.HotC X) (h : PGs X es t)
    (hn : (assignEach es X.env).length = n := by rfl) (hst : (assignEach es X.env).findIdx? (·.1) = none := by rfl) : PG X (.Tuple es k pos) (gTup X.K n t) := by
  refine ⟨fun pins s σ H v u Q I r hw => ?_⟩
  obtain ⟨a, xs, e1, hq, hl, hw⟩ := hw
  subst e1
  cases r
  obtain ⟨its, rv, ht, hz⟩ := I.tuple hq
  have hot : ∃ x1, HotAt X.A x1 s.heap := by
    rcases hc with hc | hc
    · obtain ⟨x1, o, vs, h1, h2, h3, h4, h5, h6, h7⟩ := hc
      exact ⟨x1, h1, o, vs, I.base.keep x1 o h2 h5 h6 h7, h3, h4⟩
    · exact hc.at I
  obtain ⟨x1, hot⟩ := hot
  rw [PyProof.Rows.assign_Tuple]
  refine wpAny_bind (wpAny_standAt ?_)
  unfold unpack
  have hsz : (assignEach es X.env).length = its.toArray.size := by simp [hn, ← hl, rv.length]
  rw [hsz, hst]
  refine wpAny_bind (wpAny_holding (items_tuple_hot hot ht fun h' hx => ?_))
  have I1 : Inv X pins σ H { s with heap := h' } := I.kept (t' := s.toks) hx
  exact h.run pins _ σ H xs _ Q I1 (by simpa using rv) hw
theorem g_twoH (i j : Nat) {x y : Str} {p1 p2 : Pos} {k : Nat} (hc : HotB X ∨ L2H.HotC X) (hnd : X.N.Nodup) (hN : X.N[i]? = some x := by rfl) (hx : Loc X.env.scope x := by first | exact Or.inl rfl | exact Or.inr rfl) (hf : X.fn x = true ∨ X.env.scope.names.lookup x = some .local := by first | exact .inl rfl | exact .inr rfl | assumption)
    (hN2 : X.N[j]? = some y := by rfl) (hx2 : Loc X.env.scope y := by first | exact Or.inl rfl | exact Or.inr rfl) (hf2 : X.fn y = true ∨ X.env.scope.names.lookup y = some .local := by first | exact .inl rfl | exact .inr rfl | assumption)
    (hs : (assignEach [.Name x p1, .Name y p2] X.env).map (·.2) = assign (.Name x p1) X.env :: (assignEach [.Name y p2] X.env).map (·.2) := by rfl) (hs2 : (assignEach [.Name y p2] X.env).map (·.2) = assign (.Name y p2) X.env :: (assignEach [] X.env).map (·.2) := by rfl)
    (hn : (assignEach [.Name x p1, .Name y p2] X.env).length = 2 := by rfl) (hst : (assignEach [.Name x p1, .Name y p2] X.env).findIdx? (·.1) = none := by rfl) : Gd X (.Tuple [.Name x p1, .Name y p2] k pos) (gt2 i j) [i, j] :=
  ⟨_, pg_tupH hc (pgs_cons (pg_name (i := i) hnd hN hx hf) (pgs_cons (pg_name (i := j) hnd hN2 hx2 hf2) pgs_nil hs2) hs) hn hst, fun B G0 G H σ r r' v d Q eo hv hr q => by
    unfold gt2 at hr
    cases hv with
    | tup h1 h2 =>
      split at hr
      · rename_i heq
        cases heq
        cases hr
        cases h2 with
        | cons r1 t1 =>
          cases t1 with
          | cons r2 t2 =>
            cases t2
            exact ⟨_, _, rfl, same_t eo.gh h1, rfl, _, _, rfl, _, _, rfl, rfl, q _ ((eo.set i (s := .dat _) r1).set j (s := .dat _) r2) fun vs h => by rw [wipe_set, if_pos (h j (by simp)), wipe_set, if_pos (h i (by simp))]⟩
      · cases hr
    | _ => cases hr⟩
end
end GM

/-! ### try .. except X as e, the suite returns data -/
namespace GM
open PySem PySem.Spec L2
@[simp] def gTryAs (er : Er → Bool) (g : En → Out Fl) (fb : Er → En → Option PyData) : En → Out Fl := fun r => match g r with
  | .err c r1 => if er c = true then (match fb c r1 with
    | some d => .ok (.rt (.dat d)) r1
    | none => .bot) else .err c r1
  | o => o
@[simp] def dIsE (i : Nat) (a : Addr) (f : Bool) : En → Out PyData := fun r => match r[i]? with
  | some (.exc a' _) => if a' = a then .ok (.bool f) r else .bot
  | _ => .bot
section
variable {X : Cx} {W : WX} {C : Er → Addr} {pos : Pos}
theorem EO.exc {K : PySem.W.Frag} {B G0 G H : Hp} {σ : St} {r : En} (e : EO K B G0 G H σ r) (i : Nat) (a : Addr) (c : Er) (n : H a = none) : EO K B G0 G H (σ.set i (some (.ref a))) (r.set i (.exc a c)) := e.set i (s := .exc a c) rfl
theorem s_tryAs (i : Nat) {x n : Str} {cc : Value} {er : Er → Bool} {body suite : List Stmt} {b0 : Stmt} {np pos' : Pos} {g : En → Out Fl} {gs : Addr → Er → En → Out Fl} {fb : Er → En → Option PyData} (hE : ∀ c, PySem.W.exmOne X.K (.ref (C c)) cc = some (er c)) (hc : Names X x cc) (tk : L2N.Takes X W)
    (hb : ∀ (W' : WX) (pn : List (Addr × Obj)) (xe : Value → Shared → Prop), L2N.Takes (X.tr pn xe) W' → PassesOwn (model X.prog X.w) X.A X.env xe → Bd (X.tr pn xe) W' C body g)
    (hsu : ∀ (a : Addr) (oe : Obj) (c : Er) (pn : List (Addr × Obj)), L2N.Zn (.ref (C c)) none oe → (∃ vs, oe.data = .fields vs) → L2H.HotC (X.suite a ((a, oe) :: pn)) → Bd (X.suite a ((a, oe) :: pn)) W C (b0 :: suite) (gs a c))
    (hfb : ∀ a c r d, fb c r = some d → ∃ r', gs a c (r.set i (.exc a c)) = .ok (.rt (.dat d)) r') (hnd : X.N.Nodup) (hi : X.N[i]? = some n := by rfl) (hln : X.env.kindOf n = some .local := by rfl) (hs : X.stack = X.env :: X.outer := by rfl) (hf : X.env.frame = some X.env.locals := by rfl) :
    Sd X W C (.Try body [.ExceptHandler (some (.Name x np)) (some n) (b0 :: suite) pos'] [] [] pos) (gTryAs er g fb) := by
  refine ⟨_, L2N.ps_try_as (i := i) (tb := fun W' => canonS X.K W' C g) (Wout := W) (ts := fun a cls d => fun D σ H => ∃ c, cls = .ref (C c) ∧ d = none ∧ canonS X.K W C (gs a c) D σ H) hs hf hnd hi hln hc tk (fun W' pn xe t2 p2 => (hb W' pn xe t2 p2).canon) (fun a oe cls d pn hz hv => ⟨fun pins s σ H D I h => ?_⟩), fun B G0 G H σ r D eo p => ?_⟩
  · obtain ⟨c, e1, e2, h'⟩ := h
    subst e1 e2
    exact (hsu a oe c pn hz hv (hot_suite hz hv)).canon.run pins s σ H D I h'
  · refine ⟨B, G0, G, r, eo, ?_⟩
    unfold gTryAs at p
    cases hg : g r with
    | bot => rw [hg] at p; exact p
    | ok f r1 => rw [hg] at p; cases f <;> exact p
    | err c r1 =>
      rw [hg] at p
      have p' : PostF X.K W C B G0 G D (if er c = true then (match fb c r1 with
        | some d => .ok (.rt (.dat d)) r1
        | none => .bot) else .err c r1) := p
      intro σ1 G1 H1 e1 s1
      refine ⟨er c, hE c, fun hy a ha => ?_, fun hn => ?_⟩
      · rw [if_pos hy] at p'
        cases hfd : fb c r1 with
        | none => rw [hfd] at p'; exact p'.elim
        | some d =>
          rw [hfd] at p'
          obtain ⟨r', hr'⟩ := hfb a c r1 d hfd
          refine ⟨c, rfl, rfl, B, G0, G1, _, e1.exc i a c ha, ?_⟩
          rw [hr']
          exact ⟨rfl, fun v G2 H2 e2 s2 hs2 => p'.2 v G2 H2 e2 (s1.trans s2) hs2⟩
      · rw [if_neg (by rw [hn]; decide)] at p'
        exact p' σ1 G1 H1 e1 s1
/-- isinstance(e, T), T an own class -/
theorem d_isE (i : Nat) {a D : Addr} {oe : Obj} {pn : List (Addr × Obj)} {c : Er} {f : Bool} {x T : Str} {p p2 p3 : Pos} (XC : ExcC X.K (C c)) (hz : Zc (.ref (C c)) none oe) (hv' : ∃ vs, oe.data = .fields vs) (hm : X.mg "isinstance" = none) (hmT : X.mg T = some (.ref D)) (hk : PySem.W.kitOne X.K (.ref (C c)) (.ref D) = some f)
    (hN : X.N[i]? = some x := by rfl) (hv : Vis X.env.scope x := by first | exact Or.inl rfl | exact Or.inr (Or.inl rfl) | exact Or.inr (Or.inr rfl))
    (hdx : (x == ("__debug__" : Str)) = false := by decide) (hcd : (x == ("__classdict__" : Str)) = false := by decide) (hg : Gl X "isinstance" := by rfl) (hgT : Gl X T := by rfl) (hd : (T == ("__debug__" : Str)) = false := by decide)
    (hs : starEach (.Name x p2 :: [.Name T p3]) X.env = (false, eval (.Name x p2) X.env) :: starEach [.Name T p3] X.env := by rfl) (hs2 : starEach (.Name T p3 :: []) X.env = (false, eval (.Name T p3) X.env) :: starEach [] X.env := by rfl) (hpl : (backTo pos (starEach [.Name T p3] X.env)).any (·.1) = false := by rfl) :
    Ed (X.suite a ((a, oe) :: pn)) W C (.Call (.Name "isinstance" p) [.Name x p2, .Name T p3] [] pos) (dIsE i a f) := by
  refine ⟨_, pe_callB (X := X.suite a ((a, oe) :: pn)) (call_isE XC hz hv') hg hm PyProof.Rows.boot_isinstance (pa_cons (pe_var hN hv hdx hcd) (pa_cons (pe_glob (v := .ref D) hgT hmT rfl hd) pa_nil hs2) hs) (he := hs) (hpl := hpl), fun B G0 G H σ r Q eo pp => ?_⟩
  unfold dIsE at pp
  cases hr : r[i]? with
  | none => rw [hr] at pp; exact pp.elim
  | some s =>
    rw [hr] at pp
    cases s with
    | exc a' c' =>
      have pp' : Post rD X.K W C B G0 G σ Q (if a' = a then .ok (.bool f) r else .bot) := pp
      by_cases ha : a' = a
      · subst ha
        rw [if_pos rfl] at pp'
        obtain ⟨v, h1, h2⟩ := eo.slot i _ hr
        cases h2
        exact ⟨_, h1, _, .ref D, f, rfl, fun u hu => by cases hu; rfl, hk, Post.one (R := rD) pp' eo (Dp.bl _)⟩
      · rw [if_neg ha] at pp'
        exact pp'.elim
    | _ => exact pp.elim
/-- isinstance(e, T), T a built-in class -/
theorem d_isEB (i : Nat) {a : Addr} {oe : Obj} {pn : List (Addr × Obj)} {c : Er} {f : Bool} {x T : Str} {T' : String} {p p2 p3 : Pos} (XC : ExcC X.K (C c)) (hz : Zc (.ref (C c)) none oe) (hv' : ∃ vs, oe.data = .fields vs) (hm : X.mg "isinstance" = none) (hmT : X.mg T = none) (hbT : bootBuiltins T = some (.type T')) (hk : PySem.W.kitOne X.K (.ref (C c)) (.type T') = some f)
    (hN : X.N[i]? = some x := by rfl) (hv : Vis X.env.scope x := by first | exact Or.inl rfl | exact Or.inr (Or.inl rfl) | exact Or.inr (Or.inr rfl))
    (hdx : (x == ("__debug__" : Str)) = false := by decide) (hcd : (x == ("__classdict__" : Str)) = false := by decide) (hg : Gl X "isinstance" := by rfl) (hgT : Gl X T := by rfl) (hn : T ≠ "__name__" := by decide) (hd : (T == ("__debug__" : Str)) = false := by decide)
    (hs : starEach (.Name x p2 :: [.Name T p3]) X.env = (false, eval (.Name x p2) X.env) :: starEach [.Name T p3] X.env := by rfl) (hs2 : starEach (.Name T p3 :: []) X.env = (false, eval (.Name T p3) X.env) :: starEach [] X.env := by rfl) (hpl : (backTo pos (starEach [.Name T p3] X.env)).any (·.1) = false := by rfl) :
    Ed (X.suite a ((a, oe) :: pn)) W C (.Call (.Name "isinstance" p) [.Name x p2, .Name T p3] [] pos) (dIsE i a f) := by
  refine ⟨_, pe_callB (X := X.suite a ((a, oe) :: pn)) (call_isE XC hz hv') hg hm PyProof.Rows.boot_isinstance (pa_cons (pe_var hN hv hdx hcd) (pa_cons (pe_bltn (v := .ty T') hgT hmT hbT rfl hn hd) pa_nil hs2) hs) (he := hs) (hpl := hpl), fun B G0 G H σ r Q eo pp => ?_⟩
  unfold dIsE at pp
  cases hr : r[i]? with
  | none => rw [hr] at pp; exact pp.elim
  | some s =>
    rw [hr] at pp
    cases s with
    | exc a' c' =>
      have pp' : Post rD X.K W C B G0 G σ Q (if a' = a then .ok (.bool f) r else .bot) := pp
      by_cases ha : a' = a
      · subst ha
        rw [if_pos rfl] at pp'
        obtain ⟨v, h1, h2⟩ := eo.slot i _ hr
        cases h2
        exact ⟨_, h1, _, .type T', f, rfl, fun u hu => by cases hu; rfl, hk, Post.one (R := rD) pp' eo (Dp.bl _)⟩
      · rw [if_neg ha] at pp'
        exact pp'.elim
    | _ => exact pp.elim
end
/-- what isinstance and except tell of the own errors -/
structure ExI (K : PySem.W.Frag) (mg : Str → Option Value) (C : Er → Addr) : Prop where
  y : ∀ c, ExcC K (C c)
  kk : ∀ c d, PySem.W.kitOne K (.ref (C c)) (.ref (C d)) = some (decide (c = d))
  kv : ∀ c, PySem.W.kitOne K (.ref (C c)) (.type "ValueError") = some true
  nv : mg "ValueError" = none
  mke : ∃ D, mg "MarkError" = some (.ref D) ∧ ∀ c, PySem.W.exmOne K (.ref (C c)) (.ref D) = some true
end GM

/-! ### defs called while an exception is handled -/
namespace GM
open PySem PySem.Spec PyProof.Rows HotX L2
section
variable {prog : Program} {w : World} {A : Around} {E : Value → Shared → Prop} {s : Shared}
/-- the end of a list's backward iterator, an exception being handled -/
theorem next_rev_end_hot {it l x1 : Addr} {Q : Option Value → Shared → Prop} (hot : HotAt A x1 s.heap) (hit : s.heap.IsRevIter it l (-1))
    (hQ : ∀ h', (∀ b o, s.heap.get? b = some o → h'.get? b = some o) → Q none { s with heap := h' }) : wpAny (model prog w) A (pyNext (.ref it)) Q E s := by
  obtain ⟨hh, o1, vs1, h1, d1, c1⟩ := hot
  obtain ⟨o, ho, hc, hd⟩ := id hit
  unfold pyNext
  refine wpAny_bind (wpAny_attempt (wpAny_callSpecial?_slot (name := Str.ofString "__next__") hit.typeIs F.slot_lri_next
    (wpAny_call_entry F.slot_lri_next hit.typeIs F.entry_lri_next ?_ (F.args_lri_next_1 _))))
  show wpAny _ _ (field (.ref it) 1 >>= _) _ _ s
  refine wpAny_bind (wpAny_field ho hd (x := rawInt (-1)) rfl ?_)
  show wpAny _ _ (if (-1 : Int) < 0 then _ else _) _ _ s
  rw [if_pos (by decide)]
  refine wpAny_bind (wpAny_rule ?_)
  first
  | show wpAny _ _ (newExc (.type "StopIteration") [] >>= _) _ _ _
  | (refine wpAny_bind ?_; show wpAny _ _ (newExc (.type "StopIteration") [] >>= _) _ _ _)
  refine wpAny_bind ?_
  simp only [newExc, newTuple]
  refine wpAny_bind (wpAny_newObj_type ?_ (by size_fits))
  refine wpAny_bind (m := firstArgMember _ _) (wpAny_of_eq (a := Value.none) (by first | rfl | (simp only [firstArgMember]; rfl)) ?_)
  refine wpAny_newObj_type ?_ (by size_fits)
  refine raiseNew_hot ⟨hh, o1, vs1, Heap.get?_push_of_some _ (Heap.get?_push_of_some _ h1), d1, c1⟩ (Nat.ne_of_lt (Heap.lt_size (Heap.get?_push_of_some _ h1))) (Heap.get?_push_size _ rfl) rfl (by first | (simp; done) | (simp; omega) | (simp only [Array.size_append]; simp; omega)) ?_
  refine wpAny_bind (wpAny_isInstance (T := "StopIteration") (b := true) ⟨_, Heap.get?_update_self _ (Heap.get?_push_size _ rfl) rfl, rfl⟩ isSubtype_stop ?_)
  refine wpAny_pure (hQ _ fun b o e => ?_)
  rw [Heap.get?_update_other _ _ (Nat.ne_of_gt (Heap.lt_size (Heap.get?_push_of_some _ e)))]
  exact Heap.get?_push_of_some _ (Heap.get?_push_of_some _ e)
/-- a list's iterator there -/
theorem walks_list_hot (I ax x1 : Addr) (hne : ax ≠ I) (hn1 : x1 ≠ I) (items : Array Value) : Walks prog w A I [I, ax, x1] [I] items.size (fun i v => items[i]? = some v) (fun i h => h.IsListIter I ax i ∧ h.IsList ax items ∧ HotAt A x1 h) where
  sub := fun b hb => by simp at hb; simp [hb]
  frame := fun _ _ _ st hk => ⟨st.1.at fun o e => hk I (by simp) o e, st.2.1.at fun o e => hk ax (by simp) o e, by
    obtain ⟨z, o, vs, h1, h2, h3⟩ := st.2.2
    exact ⟨z, o, vs, hk x1 (by simp) o h1, h2, h3⟩⟩
  item := fun i s Q E hi st hQ => by
    refine wpAny_pyNext_list_item st.1 st.2.1 (x := items[i]) (by simp [hi]) fun h' hit' hs' => ?_
    refine hQ _ h' s.toks (by simp [hi]) ⟨hit', st.2.1.extBut hs'.extBut hne, ?_⟩ fun b o hb e => hs'.extBut b o (fun h => hb (by simp [h])) e
    obtain ⟨z, o, vs, h1, h2, h3⟩ := st.2.2
    exact ⟨z, o, vs, hs'.extBut x1 o hn1 h1, h2, h3⟩
  done := fun s Q E st hQ => next_list_end_hot st.2.2 hn1 st.1 st.2.1 (by simp) fun h' he' => hQ h' s.toks fun b o hb e => he' b o (fun h => hb (by simp [h])) e
  self := fun _ _ _ _ st hQ => wpAny_pyIter_listiter st.1 hQ
set_option maxHeartbeats 3200000 in
/-- set(xs), xs a list of ints, there -/
theorem set_list_hot {l x1 : Addr} {items : Array Value} {ns : List Int} {Q : Value → Shared → Prop} (hot : HotAt A x1 s.heap) (hl : s.heap.IsList l items) (hi : IntsAre items.toList ns) (hb : items.size + 1 < scanBound)
    (h : ∀ (h' : Heap) (tk : Nat), h'.SetOf (intKind prog w) s.heap.objs.size (fun k' => (firstMet (fun i => ns.getD i 0) items.size).any (· == k')) (firstMet (fun i => ns.getD i 0) items.size).length →
      (∀ b o, b < s.heap.objs.size → s.heap.get? b = some o → h'.get? b = some o) → Q (.ref s.heap.objs.size) { s with heap := h', toks := tk }) :
    wpAny (model prog w) A (call (.type "set") [.ref l]) Q E s := by
  obtain ⟨c, tl, hmro⟩ := PySem.F.called_set.mro
  have hmade := PySem.F.called_set.made
  have hsub := PySem.F.called_set.sub
  have h1 := PySem.F.called_set.notType
  have h2 := PySem.F.called_set.canCreate
  have hct := PySem.F.typeCall_set_1 (.ref l)
  -- the empty set, then its __init__
  generalize ho0 : (fun led : Bool => ({ cls := .type "set", dict := none, data := .set #[] 0 (.fresh 0 0 led) } : Obj)) = emp
  refine wpAny_call (codeAny_of_tree ?_)
  show wpAny _ _ (callAny (.type "set") _) _ _ _
  refine wpAny_pure ⟨Code.quiet_builtin _ (by decide +kernel), codeAny_builtin PySem.F.entry_type_call ?_⟩
  rw [Around.under_plain (weight_type_call_type "set" [.ref l] []) rfl]
  repeat (any_goals (first | assumption | wp_step))
  refine codeAny_mono (code_set_new_1 (.ref l) (E := E) (Q₁ := fun obj s₁ => ∃ led : Bool, obj = .ref s.heap.objs.size ∧ s₁ = { s with heap := s.heap.push (emp led) }) fun led => ⟨led, rfl, by subst ho0; rfl⟩) fun r s₁ hr => ?_
  subst ho0
  dsimp only at hr
  match r, hr with
  | .error e, hr => exact hr
  | .ok .next, hr => exact hr.elim
  | .ok .brk, hr => exact hr.elim
  | .ok .cont, hr => exact hr.elim
  | .ok (.ret obj), hr =>
    obtain ⟨led, rfl, rfl⟩ := hr
    generalize ho1 : ({ cls := .type "set", dict := none, data := .set #[] 0 (.fresh 0 0 led) } : Obj) = o1
    have hS : (s.heap.push o1).get? s.heap.objs.size = some o1 := Heap.get?_push_size _ (by subst ho1; rfl)
    have hT : Shared.TypeIs { s with heap := s.heap.push o1 } (.ref s.heap.objs.size) "set" := ⟨_, hS, by subst ho1; rfl⟩
    have hli := PySem.F.called_set.init.lookup
    have hbi := PySem.F.called_set.init.bind (.ref s.heap.objs.size)
    subst ho1
    repeat (any_goals (first | assumption | wp_step))
    refine codeAny_mono (codeAny_call_builtin (R := wants (fun r s₂ => r = .none ∧ ∃ h' tk, s₂ = { s with heap := h', toks := tk } ∧
        h'.SetOf (intKind prog w) s.heap.objs.size (fun k' => (firstMet (fun i => ns.getD i 0) items.size).any (· == k')) (firstMet (fun i => ns.getD i 0) items.size).length ∧
        (∀ b o, b < s.heap.objs.size → s.heap.get? b = some o → h'.get? b = some o)) E) PySem.F.called_set.init.plain PySem.F.entry_set_init (check_set_init_1 hT ?_)) fun r₂ s₂ hr₂ => ?_
    · obtain ⟨hh, ox, vx, g1, g2, g3⟩ := hot
      obtain ⟨ol, hol, hcl, nl, hdl⟩ := hl
      obtain ⟨ocls, odict, odata, oslots⟩ := ol
      simp only at hcl hdl
      subst hcl hdl
      have hlS : l < s.heap.objs.size := Heap.lt_size hol
      have hxS : x1 < s.heap.objs.size := Heap.lt_size g1
      have hol' : (s.heap.push ({ cls := .type "set", dict := none, data := .set #[] 0 (.fresh 0 0 led) } : Obj)).get? l = some { cls := .type "list", dict := odict, data := .seq items nl, slots := oslots } := Heap.get?_push_of_some _ hol
      have hsls := PySem.F.sub_list_set
      have hslf := PySem.F.sub_list_frozenset
      have hne : (Value.type "list" == Value.type "dict") = false := by decide
      have hl1 : (s.heap.push ({ cls := .type "set", dict := none, data := .set #[] 0 (.fresh 0 0 led) } : Obj)).IsList l items := ⟨_, hol', rfl, nl, rfl⟩
      unfold Builtin.«set.__init__» noKeywords Builtin.Frozenset.updateFrom
      generalize hPI : pyIter = PI
      wp_walk
      subst hPI
      refine wpAny_pyIter_list hl1 ?_
      generalize ho1 : ({ cls := .type "set", dict := none, data := .set #[] 0 (.fresh 0 0 led) } : Obj) = o1 at hS hT hol' hl1 ⊢
      refine wpAny_bind (wpAny_runValue ?_)
      generalize hsz : (s.heap.push o1).objs.size = it
      have hit : it = s.heap.objs.size + 1 := by rw [← hsz, Heap.size_push]
      have hSf : s.heap.objs.size ∉ [it, l, x1] := by
        simp only [List.mem_cons, List.not_mem_nil, or_false, not_or]
        exact ⟨by rw [hit]; exact Nat.ne_of_lt (Nat.lt_succ_self _), Nat.ne_of_gt hlS, Nat.ne_of_gt hxS⟩
      have hval : ∀ (i : Nat) (v : Value), items[i]? = some v → ∃ t, v = .int ((fun i => ns.getD i 0) i) t := fun i v hv => IntsAre.int_at hi i v (by rw [Array.getElem?_toList]; exact hv)
      subst hsz
      have W := walks_list_hot (prog := prog) (w := w) (A := A.in1.in1.in1) (s.heap.push o1).objs.size l x1 (by rw [hit]; exact Nat.ne_of_lt (Nat.lt_succ_of_lt hlS)) (by rw [hit]; exact Nat.ne_of_lt (Nat.lt_succ_of_lt hxS)) items
      refine codeAny_set_update_loopS W.toS s.heap.objs.size hSf (fun i => ns.getD i 0) hval hb (items.size - 0) 0 _ (by omega) (Nat.zero_le _)
        ⟨⟨_, Heap.get?_push_size _ rfl, rfl, rfl⟩, hl1.push _, by simp [hh], ox, vx, Heap.get?_push_of_some _ (Heap.get?_push_of_some _ g1), g2, g3⟩ ?_ fun s' hm hS' => ?_
      · have hget : ((s.heap.push o1).push { cls := .type "list_iterator", data := .fields #[.ref l, .int 0 0] }).get? s.heap.objs.size = some o1 := Heap.get?_push_of_some _ hS
        subst ho1
        exact SetOf_congr ((setObjOf_fresh (knd := intKind prog w) led).setOf hget (by unfold scanBound; omega)) (fun _ => rfl) rfl
      · obtain ⟨h', g', d', tk', os'⟩ := s'
        have eg : g' = s.gens := hm.gens
        have ed : d' = s.drawn := hm.drawn
        have eo : os' = s.os := hm.os
        subst eg ed eo
        show wpAny _ _ _ _ _ _
        refine wpAny_pure ?_
        show wpAny _ _ (ret Value.none) _ _ _
        refine wpAny_pure ⟨rfl, h', tk', rfl, hS', fun b o hb e => ?_⟩
        exact hm.heap b o (by simp only [List.mem_cons, List.not_mem_nil, or_false, not_or]; exact ⟨Nat.ne_of_lt hb, by rw [hit]; exact Nat.ne_of_lt (Nat.lt_succ_of_lt hb)⟩) (Heap.get?_push_of_some _ (Heap.get?_push_of_some _ e))
    · match r₂, hr₂ with
      | .error e, hr₂ => exact hr₂
      | .ok .next, hr₂ => exact hr₂.elim
      | .ok .brk, hr₂ => exact hr₂.elim
      | .ok .cont, hr₂ => exact hr₂.elim
      | .ok (.ret r), hr₂ =>
        obtain ⟨rfl, h', tk, rfl, hS', hk'⟩ := hr₂
        repeat (any_goals (first | assumption | wp_step))
        exact h _ _ hS' hk'
end
end GM

/-! ### defs called while an exception is handled: the readings -/
namespace GM
open PySem PySem.Spec PyProof.Rows HotX L2
section
variable {X : Cx} {W : WX} {C : Er → Addr} {pos : Pos} {a b e tg : Expr} {es : List Expr} {sts : List Stmt} {g : En → Out Fl}
/-! len(set(xs)) -/
theorem pe_lenSetH {ta : TE} {p p2 q : Pos} (hg : Gl X "len") (hm : X.mg "len" = none) (hg2 : Gl X "set") (hm2 : X.mg "set" = none) (ha : PE X a ta) (hc : L2H.HotC X) (na : starEach [a] X.env = (false, eval a X.env) :: starEach [] X.env) :
    PE X (.Call (.Name "len" p) [.Call (.Name "set" p2) [a] [] q] [] pos) (tLenSet X.K ta) := by
  refine ⟨fun pins s σ H Q I h => Call_ (ld_blt I hg hm boot_len (callWith_builtin1 (args_cons ?_ rfl) rfl rfl))⟩
  refine Call_ (ld_blt I hg2 hm2 (show bootBuiltins "set" = some (.type "set") by decide +kernel) (callWith_type1 (args_cons (thn (ha.run pins s σ H _ I h) fun v s1 ⟨x, H1, I1, r1, q1⟩ => args_nil ?_) na) na rfl))
  obtain ⟨l, ns, rfl, hq, hl, q1⟩ := q1
  cases r1
  obtain ⟨its, r, pl, hz⟩ := I1.list hq
  obtain ⟨x1, hot⟩ := hc.at I1
  have hlen : its.toArray.size = ns.length := by rw [List.size_toArray, ← r.length, List.length_map]
  refine set_list_hot hot pl.isList (by simpa using ints_are r) (by rw [hlen]; unfold scanBound; omega) fun h' tk hS hk => args_nil ?_
  have hle := firstMet_length_le (fun i => ns.getD i 0) ns.length
  rw [hlen] at hS
  rw [PySem.W.oss_met] at hS hle
  obtain ⟨o, es, ep, t, ho, hex, hd, _, _, _, hf, hn⟩ := hS
  have I2 : Inv X pins σ H1 { s1 with heap := h', toks := tk } := I1.kept fun b o e => hk b o (Heap.lt_size e) e
  exact call_len_set ho hex hd hf (by rw [hn] <;> omega) ⟨.int (PySem.W.ossOf ns).length, H1, I2.tok _, ⟨_, by rw [hn]⟩, q1⟩
theorem d_lenSetH {p p2 q : Pos} {t : En → Out PyData} (hc : L2H.HotC X) (hm : X.mg "len" = none) (hm2 : X.mg "set" = none) (ha : Ed X W C a t) (hg : Gl X "len" := by rfl) (hg2 : Gl X "set" := by rfl) (na : starEach [a] X.env = (false, eval a X.env) :: starEach [] X.env := by rfl) :
    Ed X W C (.Call (.Name "len" p) [.Call (.Name "set" p2) [a] [] q] [] pos) (op1 fLenSet t) := by
  obtain ⟨ea, a1, a2⟩ := ha.ex
  refine ⟨_, pe_lenSetH hg hm hg2 hm2 a1 hc na, fun B G0 G H σ r Q eo p => ?_⟩
  refine j_op1 (R := rD) (rop := fun x H Q => ∃ (l : Addr) (ns : List Int), x = .ref l ∧ SqL X.K H l (ns.map V.int) ∧ ns.length ≤ 4000 ∧ Q (.int (PySem.W.ossOf ns).length) H) a2 (fun B G0 G H σ r x d s Q eo hx hf q => ?_) B G0 G H σ r Q eo p
  cases hx with
  | lst h1 h2 =>
    rename_i ds
    have hf0 : ((intsOf ds).bind fun ns => if ns.length ≤ 4000 then some (PyData.int (PySem.W.ossOf ns).length) else none) = some s := hf
    cases hi : intsOf ds with
    | none => rw [hi] at hf0; cases hf0
    | some ns =>
      rw [hi] at hf0
      have hf' : (if ns.length ≤ 4000 then some (PyData.int (PySem.W.ossOf ns).length) else none) = some s := hf0
      split at hf'
      · rename_i hl
        cases hf'
        have e := ints_dp hi h2
        subst e
        exact ⟨_, ns, rfl, eo.gh.seq h1, hl, q _ G H eo (Same.refl G) (.int _)⟩
      · cases hf'
  | _ => cases hf
/-! reversed(xs) -/
theorem turn_revH {P : Program} {w : World} {K : PySem.W.Frag} {tg : Expr} (a it : Addr) (n : Nat) : L2H.TurnH P w K tg (Itv K a n) [it] it (fun i h => i ≤ n ∧ h.IsRevIter it a ((n : Int) - 1 - (i : Nat))) where
  mem := by simp
  obj := fun i h st b hb => by
    obtain rfl : b = it := by simpa using hb
    obtain ⟨_, o, e, c, d⟩ := st
    exact ⟨o, e, fun v z => by rw [d] at z; cases z⟩
  keep := fun i h h' st k => ⟨st.1, st.2.at fun o e => k it (by simp) o e⟩
  item := by
    intro X hP hw hK hc i pins s σ H E I hf st hg
    subst hP hw hK
    obtain ⟨hin, xs, x, hq, hx⟩ := hg
    obtain ⟨its, rv, p, hz⟩ := I.list hq
    obtain ⟨u, hu, ru⟩ := rv.get hx
    obtain ⟨f0, f1, f2, f3, f4, f5⟩ := hf it (by simp)
    have hit := st.2
    rw [show (n : Int) - 1 - ((i : Nat) : Int) = ((n - 1 - i : Nat) : Int) by omega] at hit
    refine wpAny_pyNext_rev_item hit p.isList (x := u) (by simpa using hu) fun h' st' sb => ?_
    rw [show ((n - 1 - i : Nat) : Int) - 1 = (n : Int) - 1 - ((i + 1 : Nat) : Int) by omega] at st'
    have I1 : Inv X pins σ H { s with heap := h' } := I.turned (t' := s.toks) (fun b o hb e => (sb.2 b hb).trans e) f0 f1 f3 f4 f5
    obtain ⟨o, e, c, d⟩ := id st'
    exact ⟨u, rfl, go_of (s := { s with heap := h' }) e c d (by decide) ⟨x, H, I1, ru, ⟨rfl, fun ys hy => by rw [I.list_inj hy hq]; exact hx⟩, ⟨hin, st'⟩, fun b hb => (hf b hb).1⟩⟩
  done := by
    intro X hP hw hK hc i pins s σ H E I hf st hg
    subst hP hw hK
    obtain ⟨f0, f1, f2, f3, f4, f5⟩ := hf it (by simp)
    obtain ⟨hin, hit⟩ := st
    have hge : n ≤ i := hg
    rw [show (n : Int) - 1 - ((i : Nat) : Int) = -1 by omega] at hit
    obtain ⟨x1, hot⟩ := hc.at I
    exact next_rev_end_hot hot hit fun h' eb => ⟨rfl, I.turned (t' := s.toks) (fun b o _ e => eb b o e) f0 f1 f3 f4 f5⟩
  self := fun _ _ _ _ _ st h => wpAny_pyIter_revIter st.2 h
theorem pih_rev {ta : TA} {p : Pos} (hg : Gl X "reversed") (hm : X.mg "reversed" = none) (ha : PA X [e] ta) (hs : starEach [e] X.env = [(false, eval e X.env)] := by rfl) : L2H.PIH X tg (.Call (.Name "reversed" p) [e] [] pos) (iRev X.K ta) := by
  refine ⟨fun pins s σ H R I h => Call_ (ld_blt I hg hm boot_reversed (callWith_type1 (thn (ha.run pos pins s σ H _ I h) fun us s1 ⟨vs, H1, I1, r1, q1⟩ => ?_) hs rfl))⟩
  obtain ⟨a, xs, e, hq, q⟩ := q1
  subst e
  cases r1 with
  | cons r rr =>
    cases rr
    cases r
    obtain ⟨its, rv, p', hz⟩ := I1.list hq
    have hl := rv.length
    have e1 : ((its.toArray.size : Nat) : Int) - 1 = (xs.length : Int) - 1 - ((0 : Nat) : Int) := by simp only [List.size_toArray]; omega
    refine call_reversed_list p'.isList (wpAny_pyIter_revIter (l := a) (i := ((its.toArray.size : Nat) : Int) - 1) ⟨_, Heap.get?_push_size _ rfl, rfl, rfl⟩ ?_)
    refine ⟨s1.heap.objs.size, [s1.heap.objs.size], _, _, H1, rfl, I1.kept (t' := s1.toks) fun b o e => Heap.get?_push_of_some _ e, turn_revH a _ xs.length, ⟨Nat.zero_le _, ?_⟩, fun b hb => ?_, q⟩
    · rw [← e1]
      exact ⟨_, Heap.get?_push_size _ rfl, rfl, rfl⟩
    · obtain rfl : b = s1.heap.objs.size := by simpa using hb
      exact I1.fpOk (Nat.le_refl _) (I1.hok.fresh (Nat.le_refl _))
theorem iH_rev {p : Pos} {t : En → Out PyData} (hm : X.mg "reversed" = none) (ha : Ed X W C a t) (hg : Gl X "reversed" := by rfl) (hs1 : starEach (a :: []) X.env = (false, eval a X.env) :: starEach [] X.env := by rfl) (hs : starEach [a] X.env = [(false, eval a X.env)] := by rfl) : IdH X W C tg (.Call (.Name "reversed" p) [a] [] pos) (iRevD t) := by
  obtain ⟨ea, a1, a2⟩ := ha.ex
  refine ⟨_, pih_rev hg hm (pa_cons a1 pa_nil hs1) hs, ?_⟩
  refine j_op1 (R := rW) (rop := fun x H R => ∃ (a : Addr) (xs : List V), [x] = [.ref a] ∧ SqL X.K H a xs ∧ R (Itv X.K a xs.length) H) a2 fun B G0 G H σ r x d s Q eo hx hf q => ?_
  cases hx with
  | lst h1 h2 =>
    cases hf
    exact ⟨_, _, rfl, eo.gh.seq h1, q _ G H eo (Same.refl G) (wk_rev h1 h2)⟩
  | _ => cases hf
/-! raise -/
theorem s_raiseH {c : Er} {x m : Str} {j : Nat} {p p2 pos' : Pos} (hc : L2H.HotC X) (F : ErrC X.K X.mg x (C c)) (tk : L2.Takes X W) (hg : Gl X x := by rfl) (hdb : (x == ("__debug__" : Str)) = false := by decide) :
    Sd X W C (.Raise (some (.Call (.Name x p) [.Constant (.str m) j p2] [] pos)) none pos') (gRaise c) :=
  ⟨_, L2H.ps_raiseH hc tk (L2N.pmk_own PySem.F.excBase_ValueError F.xC F.gC F.kC (raises_own F.bC F.tC) hg hdb), fun B G0 G H σ r D eo p => p σ G H eo (Same.refl G)⟩
end
/-! ### calls -/
structure FnD (P : Program) (w : World) (K : PySem.W.Frag) (mg : Str → Option Value) (base : Heap) (C : Er → Addr) (k : Nat) (x : Str) (n : Nat) (F : List PyData → Res) : Prop where
  ex : ∃ (f : Addr) (fd : FuncData) (ps : List Str), L2H.FnH P w K mg base (L2.CX P w) k f fd ps (spD K C n F) ∧ mg x = some (.ref f) ∧ PySem.W.keepIn K (.ref f) = true ∧ Binds K fd ps []
section
variable {X : Cx} {W W' : WX} {C : Er → Addr} {pos : Pos} {e : Expr} {es : List Expr} {sts : List Stmt} {g : En → Out Fl}
theorem s_callH {x : Str} {p : Pos} {k k' n : Nat} {F : List PyData → Res} {t : En → Out (List PyData)} (hF : FnD X.prog X.w X.K X.mg X.base C k x n F) (hr : L2H.RoomH k' X.A) (hc : L2H.HotC X) (tk : L2.Takes X W) (ha : Ad X W C (e :: es) t) (l : Len n t) (hk : k ≤ k' := by decide) (hg : Gl X x := by rfl)
    (hdb : (x == ("__debug__" : Str)) = false := by decide) (he : starEach (e :: es) X.env = (false, eval e X.env) :: starEach es X.env := by rfl) (hpl : (backTo pos (starEach es X.env)).any (·.1) = false := by rfl) :
    Es X W C (.Call (.Name x p) (e :: es) [] pos) (sCall F t) := by
  obtain ⟨f, fd, ps, F1, F2, F3, F4⟩ := hF.ex
  obtain ⟨ea, a1, a2⟩ := ha.ex
  refine ⟨_, L2H.pe_callH F1 (hr.mono hk) hc hg F2 F3 F4 (fun σ => L2.passAt tk σ) a1 hdb he hpl, fun B G0 G H σ r Q eo p => a2 B G0 G H σ r _ eo (Post.len l ?_)⟩
  exact Post.bind (R2 := rS) p fun ds r1 vs G1 H1 e1 s1 hvs q hl => spD_of e1 hvs hl q
theorem huH {k : Nat} {A : Around} (r : L2H.RoomH k A) : A.units + 64 < cLine := by
  have := r.un
  omega
theorem hu1H {k : Nat} {A : Around} (r : L2H.RoomH k A) : A.units + 1 < cLine := by
  have := r.un
  omega
theorem roomH_s {k : Nat} {A : Around} {h : Option Value} (r : Room k A) : L2H.RoomH k (A.mark h) := ⟨r.dp, r.un⟩
theorem takesO {X : Cx} : L2.Takes X (fun _ _ _ _ => False) := fun _ _ z => by
  obtain ⟨_, _, _, _, _, _, _, _, _, _, _, _, _, _, _, _, h⟩ := z
  exact h.elim
/-- a suite that lets nothing out -/
@[simp] def gOnly (g : En → Out Fl) : En → Out Fl := fun r => match g r with
  | .err _ _ => .bot
  | o => o
theorem b_only (h : Bd X (fun _ _ _ _ => False) C sts g) : Bd X W C sts (gOnly g) := by
  obtain ⟨ts, h1, h2⟩ := h.ex
  refine ⟨ts, h1, fun B G0 G H σ r D eo p => h2 B G0 G H σ r D eo ?_⟩
  unfold gOnly at p
  cases hg : g r with
  | bot => rw [hg] at p; exact p
  | err c r1 => rw [hg] at p; exact p.elim
  | ok f r1 => rw [hg] at p; cases f <;> exact p
end
theorem fn_okH {P : Program} {w : World} {K : PySem.W.Frag} {mg : Str → Option Value} {base : Heap} {C : Er → Addr} {x : Str} {st : Stmt} {f : Addr} {fd : FuncData} {N ps : List Str} {k : Nat} {g : En → Out Fl} (F : L2.Fun K x x st f fd) (S : FnScope N ps (defScope st))
    (hbody : ∀ (cdv : Value) (A : Around) (outer : List Env) (s : Shared) (H : Hp) (E : XK) (p : Addr × Obj), L2H.RoomH k (A.deeper (envOfC x (defScope st) s.heap.objs.size f cdv)) → L2H.HotC (L2H.cxH (L2.CX P w) P w K mg base N x (defScope st) f cdv A outer s H E p) →
      Bd (L2H.cxH (L2.CX P w) P w K mg base N x (defScope st) f cdv A outer s H E p) (WF E) C (defBody st) g) : L2H.FnH P w K mg base (L2.CX P w) (k + 1) f fd ps (spD K C ps.length (runF N.length ps.length g)) := by
  obtain ⟨_, _, _, _, _, _, cdv, _, _, rfl, lk, hcd⟩ := F.ex
  refine L2H.fn_ofH lk hcd S (fun vs H Q E h => h.1) fun A outer s H vs Q E pp hot hr h => ?_
  obtain ⟨hl, G, ds, sg, hd, p⟩ := h
  obtain ⟨ts, b1, b2⟩ := (hbody cdv A outer s H E pp hr ⟨pp, hot, List.mem_cons_self⟩).ex
  refine ⟨ts, b1, b2 H G G H _ _ _ (eo_start (N := N) sg hd) ?_⟩
  rw [hl]
  unfold runF at p
  have fin : ∀ {sl : Sl} {v : V} {G' H' : Hp}, EB H G G' H' → Same G G' → SlOk K H G' H' (some v) sl → (∀ v G' H', Same H H' → Same G G' → Same G' H' → (∀ p, G' p ≠ none → G p ≠ none ∨ H p = none) → SlOk K H G' H' (some v) sl → Q v H') → Q v H' :=
    fun e s hs q => q _ _ _ e.bh s e.gh e.grow hs
  cases hg : g (ds.map Sl.dat ++ List.replicate (N.length - ps.length) .emp) with
  | bot => rw [hg] at p; exact p
  | err c r => rw [hg] at p; exact fun σ G' H' e s => p H' e.bh
  | ok fl r =>
    rw [hg] at p
    cases fl with
    | nx => exact fun σ G' H' e s => fin e.eb s (sl := .dat .none) ⟨.non, rfl, .non⟩ p
    | rt sl => exact ⟨rfl, fun v G' H' e s hs => fin e s hs p⟩
    | bk => exact p.elim
    | ct => exact p.elim
theorem fnD_mk {P : Program} {w : World} {K : PySem.W.Frag} {mg : Str → Option Value} {base : Heap} {C : Er → Addr} {k : Nat} {x : Str} {f : Addr} {fd : FuncData} {ps : List Str} {F : List PyData → Res} (gm : mg x = some (.ref f)) (kp : PySem.W.keepIn K (.ref f) = true) (hb : Binds K fd ps [])
    (h : L2H.FnH P w K mg base (L2.CX P w) k f fd ps (spD K C ps.length F)) : FnD P w K mg base C k x ps.length F := ⟨f, fd, ps, h, gm, kp, hb⟩
section
variable {X : Cx} {W : WX} {C : Er → Addr} {pos : Pos}
theorem hot_tr {pn : List (Addr × Obj)} {xe : Value → Shared → Prop} (hc : L2H.HotC X) (hs : ∀ q ∈ X.pn, q ∈ pn) : L2H.HotC (X.tr pn xe) := by
  obtain ⟨q, h1, h2⟩ := hc
  exact ⟨q, h1, hs q h2⟩
theorem s_tryAsH (i : Nat) {x n : Str} {cc : Value} {er : Er → Bool} {body suite : List Stmt} {b0 : Stmt} {np pos' : Pos} {g : En → Out Fl} {gs : Addr → Er → En → Out Fl} {fb : Er → En → Option PyData} (hE : ∀ c, PySem.W.exmOne X.K (.ref (C c)) cc = some (er c)) (hc : Names X x cc) (tk : L2.Takes X W) (hot : L2H.HotC X)
    (hb : ∀ (W' : WX) (pn : List (Addr × Obj)) (xe : Value → Shared → Prop), L2H.HotC (X.tr pn xe) → L2.Takes (X.tr pn xe) W' → PassesOwn (model X.prog X.w) X.A X.env xe → Bd (X.tr pn xe) W' C body g)
    (hsu : ∀ (a : Addr) (oe : Obj) (c : Er) (pn : List (Addr × Obj)), Zc (.ref (C c)) none oe → (∃ vs, oe.data = .fields vs) → Bd (X.suite a ((a, oe) :: pn)) W C (b0 :: suite) (gs a c))
    (hfb : ∀ a c r d, fb c r = some d → ∃ r', gs a c (r.set i (.exc a c)) = .ok (.rt (.dat d)) r') (hnd : X.N.Nodup) (hi : X.N[i]? = some n := by rfl) (hln : X.env.kindOf n = some .local := by rfl) (hs : X.stack = X.env :: X.outer := by rfl) (hf : X.env.frame = some X.env.locals := by rfl) :
    Sd X W C (.Try body [.ExceptHandler (some (.Name x np)) (some n) (b0 :: suite) pos'] [] [] pos) (gTryAs er g fb) := by
  refine ⟨_, L2H.ps_try_asH (i := i) (tb := fun W' => canonS X.K W' C g) (Wout := W) (ts := fun a cls d => fun D σ H => ∃ c, cls = .ref (C c) ∧ d = none ∧ canonS X.K W C (gs a c) D σ H) hs hf hnd hi hln hc tk (fun W' pn xe hq t2 p2 => (hb W' pn xe (hot_tr hot hq) t2 p2).canon) (fun a oe cls d pn hz hv => ⟨fun pins s σ H D I h => ?_⟩), fun B G0 G H σ r D eo p => ?_⟩
  · obtain ⟨c, e1, e2, h'⟩ := h
    subst e1 e2
    exact (hsu a oe c pn hz hv).canon.run pins s σ H D I h'
  · refine ⟨B, G0, G, r, eo, ?_⟩
    unfold gTryAs at p
    cases hg : g r with
    | bot => rw [hg] at p; exact p
    | ok f r1 => rw [hg] at p; cases f <;> exact p
    | err c r1 =>
      rw [hg] at p
      have p' : PostF X.K W C B G0 G D (if er c = true then (match fb c r1 with
        | some d => .ok (.rt (.dat d)) r1
        | none => .bot) else .err c r1) := p
      intro σ1 G1 H1 e1 s1
      refine ⟨er c, hE c, fun hy a ha => ?_, fun hn => ?_⟩
      · rw [if_pos hy] at p'
        cases hfd : fb c r1 with
        | none => rw [hfd] at p'; exact p'.elim
        | some d =>
          rw [hfd] at p'
          obtain ⟨r', hr'⟩ := hfb a c r1 d hfd
          refine ⟨c, rfl, rfl, B, G0, G1, _, e1.exc i a c ha, ?_⟩
          rw [hr']
          exact ⟨rfl, fun v G2 H2 e2 s2 hs2 => p'.2 v G2 H2 e2 (s1.trans s2) hs2⟩
      · rw [if_neg (by rw [hn]; decide)] at p'
        exact p' σ1 G1 H1 e1 s1
end
end GM

set_option maxHeartbeats 8000000
namespace GM
open PySem PySem.Spec L2
def topS (i : Nat) : Stmt := PySem.Challenge.pw_groupmarks_k05_ways_walked.main.body.getD i (.Pass ⟨0, 0, 0, 0⟩)
section
variable {P : Program} {w : World} {K : PySem.W.Frag} {mg : Str → Option Value} {base : Heap} {C : Er → Addr}
/-! ### inner -/
abbrev s_inner : Stmt := topS 7
theorem sc_inner : FnScope ["pattern", "kind"] ["pattern"] (defScope s_inner) := ⟨rfl, rfl, rfl, by decide +kernel, rfl, by decide +kernel, by decide +kernel⟩
noncomputable def g_inner : En → Out Fl :=
  (gSeq (gSet 1 (GM.dat (dIxV 0 (dC (.int 0)))))
  (gSeq (gIf (tOrD (op2 fEq (dVar 1) (dC (.str "row"))) (op2 fEq (dVar 1) (dC (.str "or"))))
  (gRet (dLst (dCons (dIxV 0 (dC (.int 1))) (dCons (dIxV 0 (dC (.int 2))) dNil))))
  gNx)
  (gSeq (gIf (tOrD (op2 fEq (dVar 1) (dC (.str "more"))) (op2 fEq (dVar 1) (dC (.str "less"))))
  (gRet (dLst (dCons (dIxV 0 (dC (.int 1))) dNil)))
  gNx)
  (gSeq (gIf (op2 fEq (dVar 1) (dC (.str "group")))
  (gRet (dLst (dCons (dIxV 0 (dC (.int 2))) dNil)))
  gNx)
  (gRet (dLst dNil))))))
noncomputable def F_inner : List PyData → Res := runF ["pattern", "kind"].length ["pattern"].length g_inner
theorem ok_inner {f : Addr} {fd : FuncData} (F : L2.Fun K "inner" "inner" s_inner f fd) (gm : mg "inner" = some (.ref f)) (T : Bi mg)     : Fn P w K mg base C 1 "inner" 1 F_inner := by
  have hb : Binds K fd ["pattern"] [] := F.binds fun _ _ _ _ _ _ us hl => match us, hl with | [_], _ => rfl
  refine fn_mk gm F.kp hb ?_
  refine fn_ok (k := 0) (N := ["pattern", "kind"]) (ps := ["pattern"]) (g := g_inner) F sc_inner fun cdv A outer s H E hr => ?_
  have nd := sc_inner.nd
  have hu := hr.units
  have hu1 := hu_of hr
  have tk : L2N.Takes (cxOf (L2N.CX P w) P w K mg base ["pattern", "kind"] "inner" (defScope s_inner) f cdv A outer s H E) (WF E) := L2N.takes_of rfl rfl rfl rfl
  exact (b_cons (s_set 1 nd ((d_ixV 0 d_int)).dat)
  (b_cons (s_if ((w_or (t_eq hu (d_var 1) d_str) (w_or1 (t_eq hu (d_var 1) d_str)))).t
  (b_one (s_ret (s_lst (a_cons (d_ixV 0 d_int) (a_cons (d_ixV 0 d_int) a_nil)) (len_cons (len_cons len_nil)))))
  b_nil)
  (b_cons (s_if ((w_or (t_eq hu (d_var 1) d_str) (w_or1 (t_eq hu (d_var 1) d_str)))).t
  (b_one (s_ret (s_lst (a_cons (d_ixV 0 d_int) a_nil) (len_cons len_nil))))
  b_nil)
  (b_cons (s_if (t_eq hu (d_var 1) d_str)
  (b_one (s_ret (s_lst (a_cons (d_ixV 0 d_int) a_nil) (len_cons len_nil))))
  b_nil)
  (b_one (s_ret (s_lst a_nil len_nil)))))))
theorem okH_inner {f : Addr} {fd : FuncData} (F : L2.Fun K "inner" "inner" s_inner f fd) (gm : mg "inner" = some (.ref f)) (T : Bi mg)   : FnD P w K mg base C 1 "inner" 1 F_inner := by
  have hb : Binds K fd ["pattern"] [] := F.binds fun _ _ _ _ _ _ us hl => match us, hl with | [_], _ => rfl
  refine fnD_mk gm F.kp hb ?_
  refine fn_okH (k := 0) (N := ["pattern", "kind"]) (ps := ["pattern"]) (g := g_inner) F sc_inner fun cdv A outer s H E pp hr hot => ?_
  have nd := sc_inner.nd
  have hu : (L2H.cxH (L2.CX P w) P w K mg base ["pattern", "kind"] "inner" (defScope s_inner) f cdv A outer s H E pp).A.units + 64 < cLine := huH hr
  have hu1 : (L2H.cxH (L2.CX P w) P w K mg base ["pattern", "kind"] "inner" (defScope s_inner) f cdv A outer s H E pp).A.units + 1 < cLine := hu1H hr
  have tk : L2.Takes (L2H.cxH (L2.CX P w) P w K mg base ["pattern", "kind"] "inner" (defScope s_inner) f cdv A outer s H E pp) (WF E) := L2.takes_of rfl rfl rfl rfl
  exact (b_cons (s_set 1 nd ((d_ixV 0 d_int)).dat)
  (b_cons (s_if ((w_or (t_eq hu (d_var 1) d_str) (w_or1 (t_eq hu (d_var 1) d_str)))).t
  (b_one (s_ret (s_lst (a_cons (d_ixV 0 d_int) (a_cons (d_ixV 0 d_int) a_nil)) (len_cons (len_cons len_nil)))))
  b_nil)
  (b_cons (s_if ((w_or (t_eq hu (d_var 1) d_str) (w_or1 (t_eq hu (d_var 1) d_str)))).t
  (b_one (s_ret (s_lst (a_cons (d_ixV 0 d_int) a_nil) (len_cons len_nil))))
  b_nil)
  (b_cons (s_if (t_eq hu (d_var 1) d_str)
  (b_one (s_ret (s_lst (a_cons (d_ixV 0 d_int) a_nil) (len_cons len_nil))))
  b_nil)
  (b_one (s_ret (s_lst a_nil len_nil)))))))

/-! ### parts -/
abbrev s_parts : Stmt := topS 8
theorem sc_parts : FnScope ["pattern", "found", "waiting", "part", "made"] ["pattern"] (defScope s_parts) := ⟨rfl, rfl, rfl, by decide +kernel, rfl, by decide +kernel, by decide +kernel⟩
noncomputable def b_parts_0 : En → Out Fl :=
  (gSeq (gSet 3 (GM.dat (dPop 2)))
  (gSeq (gApp 1 (dVar 3))
  (gSeq (gSet 4 (sCall F_inner (dCons (dVar 3) dNil)))
  (gSeq (gRev 4)
  (gExtV 2 4)))))
noncomputable def g_parts : En → Out Fl :=
  (gSeq (gSet 1 (dLst dNil))
  (gSeq (gSet 2 (dLst (dCons (dVar 0) dNil)))
  (gSeq (gWhile (tTruV 2) b_parts_0)
  (gRetV 1))))
noncomputable def F_parts : List PyData → Res := runF ["pattern", "found", "waiting", "part", "made"].length ["pattern"].length g_parts
theorem ok_parts {f : Addr} {fd : FuncData} (F : L2.Fun K "parts" "parts" s_parts f fd) (gm : mg "parts" = some (.ref f)) (T : Bi mg) (c_inner : Fn P w K mg base C 1 "inner" 1 F_inner)    : Fn P w K mg base C 2 "parts" 1 F_parts := by
  have hb : Binds K fd ["pattern"] [] := F.binds fun _ _ _ _ _ _ us hl => match us, hl with | [_], _ => rfl
  refine fn_mk gm F.kp hb ?_
  refine fn_ok (k := 1) (N := ["pattern", "found", "waiting", "part", "made"]) (ps := ["pattern"]) (g := g_parts) F sc_parts fun cdv A outer s H E hr => ?_
  have nd := sc_parts.nd
  have hu := hr.units
  have hu1 := hu_of hr
  have tk : L2N.Takes (cxOf (L2N.CX P w) P w K mg base ["pattern", "found", "waiting", "part", "made"] "parts" (defScope s_parts) f cdv A outer s H E) (WF E) := L2N.takes_of rfl rfl rfl rfl
  have hp : PassesOwn (model P w) (cxOf (L2N.CX P w) P w K mg base ["pattern", "found", "waiting", "part", "made"] "parts" (defScope s_parts) f cdv A outer s H E).A (cxOf (L2N.CX P w) P w K mg base ["pattern", "found", "waiting", "part", "made"] "parts" (defScope s_parts) f cdv A outer s H E).env (cxOf (L2N.CX P w) P w K mg base ["pattern", "found", "waiting", "part", "made"] "parts" (defScope s_parts) f cdv A outer s H E).xe := passes_of (X := cxOf (L2N.CX P w) P w K mg base ["pattern", "found", "waiting", "part", "made"] "parts" (defScope s_parts) f cdv A outer s H E) rfl
  exact (b_cons (s_set 1 nd (s_lst a_nil len_nil))
  (b_cons (s_set 2 nd (s_lst (a_cons (d_var 0) a_nil) (len_cons len_nil)))
  (b_cons (s_while hp (t_truV 2)
  (b_cons (s_set 3 nd ((d_pop 2)).dat)
  (b_cons (s_app 1 (d_var 3))
  (b_cons (s_set 4 nd (s_call c_inner hr tk (a_cons (d_var 3) a_nil) (len_cons len_nil)))
  (b_cons (s_rev 4)
  (b_one (s_extV 2 4)))))))
  (b_one (s_retV 1)))))
theorem okH_parts {f : Addr} {fd : FuncData} (F : L2.Fun K "parts" "parts" s_parts f fd) (gm : mg "parts" = some (.ref f)) (T : Bi mg) (d_inner : FnD P w K mg base C 1 "inner" 1 F_inner)  : FnD P w K mg base C 2 "parts" 1 F_parts := by
  have hb : Binds K fd ["pattern"] [] := F.binds fun _ _ _ _ _ _ us hl => match us, hl with | [_], _ => rfl
  refine fnD_mk gm F.kp hb ?_
  refine fn_okH (k := 1) (N := ["pattern", "found", "waiting", "part", "made"]) (ps := ["pattern"]) (g := g_parts) F sc_parts fun cdv A outer s H E pp hr hot => ?_
  have nd := sc_parts.nd
  have hu : (L2H.cxH (L2.CX P w) P w K mg base ["pattern", "found", "waiting", "part", "made"] "parts" (defScope s_parts) f cdv A outer s H E pp).A.units + 64 < cLine := huH hr
  have hu1 : (L2H.cxH (L2.CX P w) P w K mg base ["pattern", "found", "waiting", "part", "made"] "parts" (defScope s_parts) f cdv A outer s H E pp).A.units + 1 < cLine := hu1H hr
  have tk : L2.Takes (L2H.cxH (L2.CX P w) P w K mg base ["pattern", "found", "waiting", "part", "made"] "parts" (defScope s_parts) f cdv A outer s H E pp) (WF E) := L2.takes_of rfl rfl rfl rfl
  have hp : PassesOwn (model P w) (L2H.cxH (L2.CX P w) P w K mg base ["pattern", "found", "waiting", "part", "made"] "parts" (defScope s_parts) f cdv A outer s H E pp).A (L2H.cxH (L2.CX P w) P w K mg base ["pattern", "found", "waiting", "part", "made"] "parts" (defScope s_parts) f cdv A outer s H E pp).env (L2H.cxH (L2.CX P w) P w K mg base ["pattern", "found", "waiting", "part", "made"] "parts" (defScope s_parts) f cdv A outer s H E pp).xe := passes_of (X := (L2H.cxH (L2.CX P w) P w K mg base ["pattern", "found", "waiting", "part", "made"] "parts" (defScope s_parts) f cdv A outer s H E pp)) rfl
  exact (b_cons (s_set 1 nd (s_lst a_nil len_nil))
  (b_cons (s_set 2 nd (s_lst (a_cons (d_var 0) a_nil) (len_cons len_nil)))
  (b_cons (s_while hp (t_truV 2)
  (b_cons (s_set 3 nd ((d_pop 2)).dat)
  (b_cons (s_app 1 (d_var 3))
  (b_cons (s_set 4 nd (s_callH d_inner hr hot tk (a_cons (d_var 3) a_nil) (len_cons len_nil)))
  (b_cons (s_rev 4)
  (b_one (s_extV 2 4)))))))
  (b_one (s_retV 1)))))

/-! ### numbers -/
abbrev s_numbers : Stmt := topS 9
theorem sc_numbers : FnScope ["pattern", "part"] ["pattern"] (defScope s_numbers) := ⟨rfl, rfl, rfl, by decide +kernel, rfl, by decide +kernel, by decide +kernel⟩
noncomputable def g_numbers : En → Out Fl :=
  (gRet (dLc (iLst (frz (sCall F_parts (dCons (dVar 0) dNil)))) (gtN 1) (op2 fEq (dIxV 1 (dC (.int 0))) (dC (.str "group"))) (dIxV 1 (dC (.int 1))) [1]))
noncomputable def F_numbers : List PyData → Res := runF ["pattern", "part"].length ["pattern"].length g_numbers
theorem ok_numbers {f : Addr} {fd : FuncData} (F : L2.Fun K "numbers" "numbers" s_numbers f fd) (gm : mg "numbers" = some (.ref f)) (T : Bi mg) (c_parts : Fn P w K mg base C 2 "parts" 1 F_parts)    : Fn P w K mg base C 3 "numbers" 1 F_numbers := by
  have hb : Binds K fd ["pattern"] [] := F.binds fun _ _ _ _ _ _ us hl => match us, hl with | [_], _ => rfl
  refine fn_mk gm F.kp hb ?_
  refine fn_ok (k := 2) (N := ["pattern", "part"]) (ps := ["pattern"]) (g := g_numbers) F sc_numbers fun cdv A outer s H E hr => ?_
  have nd := sc_numbers.nd
  have hu := hr.units
  have hu1 := hu_of hr
  have tk : L2N.Takes (cxOf (L2N.CX P w) P w K mg base ["pattern", "part"] "numbers" (defScope s_numbers) f cdv A outer s H E) (WF E) := L2N.takes_of rfl rfl rfl rfl
  exact (b_one (s_ret (s_lc (own := [("part", 1)]) rfl nd (i_list ((s_call c_parts hr tk (a_cons (d_var 0) a_nil) (len_cons len_nil))).frz) (blkOk_by (N := ["pattern", "part"]) (sc := defScope s_numbers) (by decide +kernel)) (fun _ _ _ _ _ => (g_name 1 nd)) (fun _ _ _ _ _ => (ts_one (t_eq hu (d_ixV 1 d_int) d_str))) (fun _ _ _ _ _ => (d_ixV 1 d_int)))))
theorem okH_numbers {f : Addr} {fd : FuncData} (F : L2.Fun K "numbers" "numbers" s_numbers f fd) (gm : mg "numbers" = some (.ref f)) (T : Bi mg) (d_parts : FnD P w K mg base C 2 "parts" 1 F_parts)  : FnD P w K mg base C 3 "numbers" 1 F_numbers := by
  have hb : Binds K fd ["pattern"] [] := F.binds fun _ _ _ _ _ _ us hl => match us, hl with | [_], _ => rfl
  refine fnD_mk gm F.kp hb ?_
  refine fn_okH (k := 2) (N := ["pattern", "part"]) (ps := ["pattern"]) (g := g_numbers) F sc_numbers fun cdv A outer s H E pp hr hot => ?_
  have nd := sc_numbers.nd
  have hu : (L2H.cxH (L2.CX P w) P w K mg base ["pattern", "part"] "numbers" (defScope s_numbers) f cdv A outer s H E pp).A.units + 64 < cLine := huH hr
  have hu1 : (L2H.cxH (L2.CX P w) P w K mg base ["pattern", "part"] "numbers" (defScope s_numbers) f cdv A outer s H E pp).A.units + 1 < cLine := hu1H hr
  have tk : L2.Takes (L2H.cxH (L2.CX P w) P w K mg base ["pattern", "part"] "numbers" (defScope s_numbers) f cdv A outer s H E pp) (WF E) := L2.takes_of rfl rfl rfl rfl
  exact (b_one (s_ret (s_lcH (own := [("part", 1)]) hot nd (iL_list ((s_callH d_parts hr hot tk (a_cons (d_var 0) a_nil) (len_cons len_nil))).frz) (blkOk_by (N := ["pattern", "part"]) (sc := defScope s_numbers) (by decide +kernel)) (fun _ _ _ _ _ hb => (g_name 1 nd)) (fun _ _ _ _ _ => (ts_one (t_eq hu (d_ixV 1 d_int) d_str))) (fun _ _ _ _ _ => (d_ixV 1 d_int)))))

/-! ### takes_nothing -/
abbrev s_takes_nothing : Stmt := topS 10
theorem sc_takes_nothing : FnScope ["pattern", "truths", "part", "kind", "first", "second"] ["pattern"] (defScope s_takes_nothing) := ⟨rfl, rfl, rfl, by decide +kernel, rfl, by decide +kernel, by decide +kernel⟩
noncomputable def b_takes_nothing_0 : En → Out Fl :=
  (gSeq (gSet 3 (GM.dat (dIxV 2 (dC (.int 0)))))
  (gIf (tOrD (op2 fEq (dVar 3) (dC (.str "row"))) (op2 fEq (dVar 3) (dC (.str "or"))))
  (gSeq (gSet 4 (GM.dat (dPop 1)))
  (gSeq (gSet 5 (GM.dat (dPop 1)))
  (gIf (op2 fEq (dVar 3) (dC (.str "row")))
  (gApp 1 (dAnd (dVar 4) (dVar 5)))
  (gApp 1 (dOr (dVar 4) (dVar 5))))))
  (gIf (tOrD (op2 fEq (dVar 3) (dC (.str "more"))) (op2 fEq (dVar 3) (dC (.str "less"))))
  (gSeq (gDrop (dPop 1))
  (gApp 1 (dC (.bool true))))
  (gIf (op2 fNe (dVar 3) (dC (.str "group")))
  (gApp 1 (op2 (boolD fEq) (dVar 3) (dC (.str "none"))))
  gNx))))
noncomputable def g_takes_nothing : En → Out Fl :=
  (gSeq (gSet 1 (dLst dNil))
  (gSeq (gFor (iRevD (frz (sCall F_parts (dCons (dVar 0) dNil)))) (gtN 2) b_takes_nothing_0)
  (gRet (GM.dat (dIxV 1 (dC (.int 0)))))))
noncomputable def F_takes_nothing : List PyData → Res := runF ["pattern", "truths", "part", "kind", "first", "second"].length ["pattern"].length g_takes_nothing
theorem ok_takes_nothing {f : Addr} {fd : FuncData} (F : L2.Fun K "takes_nothing" "takes_nothing" s_takes_nothing f fd) (gm : mg "takes_nothing" = some (.ref f)) (T : Bi mg) (c_parts : Fn P w K mg base C 2 "parts" 1 F_parts)    : Fn P w K mg base C 3 "takes_nothing" 1 F_takes_nothing := by
  have hb : Binds K fd ["pattern"] [] := F.binds fun _ _ _ _ _ _ us hl => match us, hl with | [_], _ => rfl
  refine fn_mk gm F.kp hb ?_
  refine fn_ok (k := 2) (N := ["pattern", "truths", "part", "kind", "first", "second"]) (ps := ["pattern"]) (g := g_takes_nothing) F sc_takes_nothing fun cdv A outer s H E hr => ?_
  have nd := sc_takes_nothing.nd
  have hu := hr.units
  have hu1 := hu_of hr
  have tk : L2N.Takes (cxOf (L2N.CX P w) P w K mg base ["pattern", "truths", "part", "kind", "first", "second"] "takes_nothing" (defScope s_takes_nothing) f cdv A outer s H E) (WF E) := L2N.takes_of rfl rfl rfl rfl
  have hp : PassesOwn (model P w) (cxOf (L2N.CX P w) P w K mg base ["pattern", "truths", "part", "kind", "first", "second"] "takes_nothing" (defScope s_takes_nothing) f cdv A outer s H E).A (cxOf (L2N.CX P w) P w K mg base ["pattern", "truths", "part", "kind", "first", "second"] "takes_nothing" (defScope s_takes_nothing) f cdv A outer s H E).env (cxOf (L2N.CX P w) P w K mg base ["pattern", "truths", "part", "kind", "first", "second"] "takes_nothing" (defScope s_takes_nothing) f cdv A outer s H E).xe := passes_of (X := cxOf (L2N.CX P w) P w K mg base ["pattern", "truths", "part", "kind", "first", "second"] "takes_nothing" (defScope s_takes_nothing) f cdv A outer s H E) rfl
  exact (b_cons (s_set 1 nd (s_lst a_nil len_nil))
  (b_cons (s_for hp rfl (i_rev T.reversed ((s_call c_parts hr tk (a_cons (d_var 0) a_nil) (len_cons len_nil))).frz) (g_name 2 nd)
  (b_cons (s_set 3 nd ((d_ixV 2 d_int)).dat)
  (b_one (s_if ((w_or (t_eq hu (d_var 3) d_str) (w_or1 (t_eq hu (d_var 3) d_str)))).t
  (b_cons (s_set 4 nd ((d_pop 1)).dat)
  (b_cons (s_set 5 nd ((d_pop 1)).dat)
  (b_one (s_if (t_eq hu (d_var 3) d_str)
  (b_one (s_app 1 (d_and (d_var 4) (d_one (d_var 5)))))
  (b_one (s_app 1 (d_or (d_var 4) (d_one (d_var 5)))))))))
  (b_one (s_if ((w_or (t_eq hu (d_var 3) d_str) (w_or1 (t_eq hu (d_var 3) d_str)))).t
  (b_cons (s_drop (d_pop 1))
  (b_one (s_app 1 d_bl)))
  (b_one (s_if (t_ne hu (d_var 3) d_str)
  (b_one (s_app 1 (d_eq hu (d_var 3) d_str)))
  b_nil))))))))
  (b_one (s_ret ((d_ixV 1 d_int)).dat))))
theorem okH_takes_nothing {f : Addr} {fd : FuncData} (F : L2.Fun K "takes_nothing" "takes_nothing" s_takes_nothing f fd) (gm : mg "takes_nothing" = some (.ref f)) (T : Bi mg) (d_parts : FnD P w K mg base C 2 "parts" 1 F_parts)  : FnD P w K mg base C 3 "takes_nothing" 1 F_takes_nothing := by
  have hb : Binds K fd ["pattern"] [] := F.binds fun _ _ _ _ _ _ us hl => match us, hl with | [_], _ => rfl
  refine fnD_mk gm F.kp hb ?_
  refine fn_okH (k := 2) (N := ["pattern", "truths", "part", "kind", "first", "second"]) (ps := ["pattern"]) (g := g_takes_nothing) F sc_takes_nothing fun cdv A outer s H E pp hr hot => ?_
  have nd := sc_takes_nothing.nd
  have hu : (L2H.cxH (L2.CX P w) P w K mg base ["pattern", "truths", "part", "kind", "first", "second"] "takes_nothing" (defScope s_takes_nothing) f cdv A outer s H E pp).A.units + 64 < cLine := huH hr
  have hu1 : (L2H.cxH (L2.CX P w) P w K mg base ["pattern", "truths", "part", "kind", "first", "second"] "takes_nothing" (defScope s_takes_nothing) f cdv A outer s H E pp).A.units + 1 < cLine := hu1H hr
  have tk : L2.Takes (L2H.cxH (L2.CX P w) P w K mg base ["pattern", "truths", "part", "kind", "first", "second"] "takes_nothing" (defScope s_takes_nothing) f cdv A outer s H E pp) (WF E) := L2.takes_of rfl rfl rfl rfl
  have hp : PassesOwn (model P w) (L2H.cxH (L2.CX P w) P w K mg base ["pattern", "truths", "part", "kind", "first", "second"] "takes_nothing" (defScope s_takes_nothing) f cdv A outer s H E pp).A (L2H.cxH (L2.CX P w) P w K mg base ["pattern", "truths", "part", "kind", "first", "second"] "takes_nothing" (defScope s_takes_nothing) f cdv A outer s H E pp).env (L2H.cxH (L2.CX P w) P w K mg base ["pattern", "truths", "part", "kind", "first", "second"] "takes_nothing" (defScope s_takes_nothing) f cdv A outer s H E pp).xe := passes_of (X := (L2H.cxH (L2.CX P w) P w K mg base ["pattern", "truths", "part", "kind", "first", "second"] "takes_nothing" (defScope s_takes_nothing) f cdv A outer s H E pp)) rfl
  exact (b_cons (s_set 1 nd (s_lst a_nil len_nil))
  (b_cons (s_forH hp hot (iH_rev T.reversed ((s_callH d_parts hr hot tk (a_cons (d_var 0) a_nil) (len_cons len_nil))).frz) (g_name 2 nd)
  (b_cons (s_set 3 nd ((d_ixV 2 d_int)).dat)
  (b_one (s_if ((w_or (t_eq hu (d_var 3) d_str) (w_or1 (t_eq hu (d_var 3) d_str)))).t
  (b_cons (s_set 4 nd ((d_pop 1)).dat)
  (b_cons (s_set 5 nd ((d_pop 1)).dat)
  (b_one (s_if (t_eq hu (d_var 3) d_str)
  (b_one (s_app 1 (d_and (d_var 4) (d_one (d_var 5)))))
  (b_one (s_app 1 (d_or (d_var 4) (d_one (d_var 5)))))))))
  (b_one (s_if ((w_or (t_eq hu (d_var 3) d_str) (w_or1 (t_eq hu (d_var 3) d_str)))).t
  (b_cons (s_drop (d_pop 1))
  (b_one (s_app 1 d_bl)))
  (b_one (s_if (t_ne hu (d_var 3) d_str)
  (b_one (s_app 1 (d_eq hu (d_var 3) d_str)))
  b_nil))))))))
  (b_one (s_ret ((d_ixV 1 d_int)).dat))))

/-! ### is_number -/
abbrev s_is_number : Stmt := topS 11
theorem sc_is_number : FnScope ["thing"] ["thing"] (defScope s_is_number) := ⟨rfl, rfl, rfl, by decide +kernel, rfl, by decide +kernel, by decide +kernel⟩
noncomputable def g_is_number : En → Out Fl :=
  (gRet (GM.dat (dAnd (op1 (fIsi "int") (dVar 0)) (dAnd (dNot (op1 (fIsi "bool") (dVar 0))) (op2 (boolD fGe) (dVar 0) (dC (.int 1)))))))
noncomputable def F_is_number : List PyData → Res := runF ["thing"].length ["thing"].length g_is_number
theorem ok_is_number {f : Addr} {fd : FuncData} (F : L2.Fun K "is_number" "is_number" s_is_number f fd) (gm : mg "is_number" = some (.ref f)) (T : Bi mg)     : Fn P w K mg base C 1 "is_number" 1 F_is_number := by
  have hb : Binds K fd ["thing"] [] := F.binds fun _ _ _ _ _ _ us hl => match us, hl with | [_], _ => rfl
  refine fn_mk gm F.kp hb ?_
  refine fn_ok (k := 0) (N := ["thing"]) (ps := ["thing"]) (g := g_is_number) F sc_is_number fun cdv A outer s H E hr => ?_
  have nd := sc_is_number.nd
  have hu := hr.units
  have hu1 := hu_of hr
  have tk : L2N.Takes (cxOf (L2N.CX P w) P w K mg base ["thing"] "is_number" (defScope s_is_number) f cdv A outer s H E) (WF E) := L2N.takes_of rfl rfl rfl rfl
  exact (b_one (s_ret ((d_and (d_isi isi_int T.isinstance T.int boot_int (d_var 0)) (d_and (d_not (d_isi isi_bool T.isinstance T.bool boot_bool (d_var 0))) (d_one (d_ge (d_var 0) d_int))))).dat))
theorem okH_is_number {f : Addr} {fd : FuncData} (F : L2.Fun K "is_number" "is_number" s_is_number f fd) (gm : mg "is_number" = some (.ref f)) (T : Bi mg)   : FnD P w K mg base C 1 "is_number" 1 F_is_number := by
  have hb : Binds K fd ["thing"] [] := F.binds fun _ _ _ _ _ _ us hl => match us, hl with | [_], _ => rfl
  refine fnD_mk gm F.kp hb ?_
  refine fn_okH (k := 0) (N := ["thing"]) (ps := ["thing"]) (g := g_is_number) F sc_is_number fun cdv A outer s H E pp hr hot => ?_
  have nd := sc_is_number.nd
  have hu : (L2H.cxH (L2.CX P w) P w K mg base ["thing"] "is_number" (defScope s_is_number) f cdv A outer s H E pp).A.units + 64 < cLine := huH hr
  have hu1 : (L2H.cxH (L2.CX P w) P w K mg base ["thing"] "is_number" (defScope s_is_number) f cdv A outer s H E pp).A.units + 1 < cLine := hu1H hr
  have tk : L2.Takes (L2H.cxH (L2.CX P w) P w K mg base ["thing"] "is_number" (defScope s_is_number) f cdv A outer s H E pp) (WF E) := L2.takes_of rfl rfl rfl rfl
  exact (b_one (s_ret ((d_and (d_isi isi_int T.isinstance T.int boot_int (d_var 0)) (d_and (d_not (d_isi isi_bool T.isinstance T.bool boot_bool (d_var 0))) (d_one (d_ge (d_var 0) d_int))))).dat))

/-! ### has_form -/
abbrev s_has_form : Stmt := topS 12
theorem sc_has_form : FnScope ["thing", "kind"] ["thing"] (defScope s_has_form) := ⟨rfl, rfl, rfl, by decide +kernel, rfl, by decide +kernel, by decide +kernel⟩
noncomputable def g_has_form : En → Out Fl :=
  (gSeq (gIf (tOrD (tNotD (tVal (op1 (fIsi "tuple") (dVar 0)))) (tOrD (op2 fEq (dLenV 0) (dC (.int 0))) (tNotD (tVal (op1 (fIsi "str") (dIxV 0 (dC (.int 0))))))))
  (gRet (GM.dat (dC (.bool false))))
  gNx)
  (gSeq (gSet 1 (GM.dat (dIxV 0 (dC (.int 0)))))
  (gSeq (gIf (tOrD (op2 fEq (dVar 1) (dC (.str "any"))) (op2 fEq (dVar 1) (dC (.str "none"))))
  (gRet (GM.dat (op2 (boolD fEq) (dLenV 0) (dC (.int 1)))))
  gNx)
  (gSeq (gIf (tOrD (op2 fEq (dVar 1) (dC (.str "row"))) (op2 fEq (dVar 1) (dC (.str "or"))))
  (gRet (GM.dat (op2 (boolD fEq) (dLenV 0) (dC (.int 3)))))
  gNx)
  (gSeq (gIf (tOrD (op2 fEq (dVar 1) (dC (.str "more"))) (op2 fEq (dVar 1) (dC (.str "less"))))
  (gRet (GM.dat (op2 (boolD fEq) (dLenV 0) (dC (.int 2)))))
  gNx)
  (gSeq (gIf (op2 fEq (dVar 1) (dC (.str "group")))
  (gRet (GM.dat (dAnd (op2 (boolD fEq) (dLenV 0) (dC (.int 3))) (frz (sCall F_is_number (dCons (dIxV 0 (dC (.int 1))) dNil))))))
  gNx)
  (gSeq (gIf (tAndD (op2 fEq (dVar 1) (dC (.str "sign"))) (op2 fEq (dLenV 0) (dC (.int 2))))
  (gRet (GM.dat (dAnd (op1 (fIsi "str") (dIxV 0 (dC (.int 1)))) (op2 (boolD fEq) (op1 fLen (dIxV 0 (dC (.int 1)))) (dC (.int 1))))))
  gNx)
  (gRet (GM.dat (dC (.bool false)))))))))))
noncomputable def F_has_form : List PyData → Res := runF ["thing", "kind"].length ["thing"].length g_has_form
theorem ok_has_form {f : Addr} {fd : FuncData} (F : L2.Fun K "has_form" "has_form" s_has_form f fd) (gm : mg "has_form" = some (.ref f)) (T : Bi mg) (c_is_number : Fn P w K mg base C 1 "is_number" 1 F_is_number)    : Fn P w K mg base C 2 "has_form" 1 F_has_form := by
  have hb : Binds K fd ["thing"] [] := F.binds fun _ _ _ _ _ _ us hl => match us, hl with | [_], _ => rfl
  refine fn_mk gm F.kp hb ?_
  refine fn_ok (k := 1) (N := ["thing", "kind"]) (ps := ["thing"]) (g := g_has_form) F sc_has_form fun cdv A outer s H E hr => ?_
  have nd := sc_has_form.nd
  have hu := hr.units
  have hu1 := hu_of hr
  have tk : L2N.Takes (cxOf (L2N.CX P w) P w K mg base ["thing", "kind"] "has_form" (defScope s_has_form) f cdv A outer s H E) (WF E) := L2N.takes_of rfl rfl rfl rfl
  exact (b_cons (s_if ((w_or (t_not (t_valD (d_isi isi_tuple T.isinstance T.tuple boot_tuple (d_var 0)))) (w_or (t_eq hu (d_lenV 0 T.len) d_int) (w_or1 (t_not (t_valD (d_isi isi_str T.isinstance T.str boot_str (d_ixV 0 d_int)))))))).t
  (b_one (s_ret (d_bl).dat))
  b_nil)
  (b_cons (s_set 1 nd ((d_ixV 0 d_int)).dat)
  (b_cons (s_if ((w_or (t_eq hu (d_var 1) d_str) (w_or1 (t_eq hu (d_var 1) d_str)))).t
  (b_one (s_ret ((d_eq hu (d_lenV 0 T.len) d_int)).dat))
  b_nil)
  (b_cons (s_if ((w_or (t_eq hu (d_var 1) d_str) (w_or1 (t_eq hu (d_var 1) d_str)))).t
  (b_one (s_ret ((d_eq hu (d_lenV 0 T.len) d_int)).dat))
  b_nil)
  (b_cons (s_if ((w_or (t_eq hu (d_var 1) d_str) (w_or1 (t_eq hu (d_var 1) d_str)))).t
  (b_one (s_ret ((d_eq hu (d_lenV 0 T.len) d_int)).dat))
  b_nil)
  (b_cons (s_if (t_eq hu (d_var 1) d_str)
  (b_one (s_ret ((d_and (d_eq hu (d_lenV 0 T.len) d_int) (d_one ((s_call c_is_number hr tk (a_cons (d_ixV 0 d_int) a_nil) (len_cons len_nil))).frz))).dat))
  b_nil)
  (b_cons (s_if ((w_and (t_eq hu (d_var 1) d_str) (w_and1 (t_eq hu (d_lenV 0 T.len) d_int)))).t
  (b_one (s_ret ((d_and (d_isi isi_str T.isinstance T.str boot_str (d_ixV 0 d_int)) (d_one (d_eq hu (d_len T.len (d_ixV 0 d_int)) d_int)))).dat))
  b_nil)
  (b_one (s_ret (d_bl).dat)))))))))
theorem okH_has_form {f : Addr} {fd : FuncData} (F : L2.Fun K "has_form" "has_form" s_has_form f fd) (gm : mg "has_form" = some (.ref f)) (T : Bi mg) (d_is_number : FnD P w K mg base C 1 "is_number" 1 F_is_number)  : FnD P w K mg base C 2 "has_form" 1 F_has_form := by
  have hb : Binds K fd ["thing"] [] := F.binds fun _ _ _ _ _ _ us hl => match us, hl with | [_], _ => rfl
  refine fnD_mk gm F.kp hb ?_
  refine fn_okH (k := 1) (N := ["thing", "kind"]) (ps := ["thing"]) (g := g_has_form) F sc_has_form fun cdv A outer s H E pp hr hot => ?_
  have nd := sc_has_form.nd
  have hu : (L2H.cxH (L2.CX P w) P w K mg base ["thing", "kind"] "has_form" (defScope s_has_form) f cdv A outer s H E pp).A.units + 64 < cLine := huH hr
  have hu1 : (L2H.cxH (L2.CX P w) P w K mg base ["thing", "kind"] "has_form" (defScope s_has_form) f cdv A outer s H E pp).A.units + 1 < cLine := hu1H hr
  have tk : L2.Takes (L2H.cxH (L2.CX P w) P w K mg base ["thing", "kind"] "has_form" (defScope s_has_form) f cdv A outer s H E pp) (WF E) := L2.takes_of rfl rfl rfl rfl
  exact (b_cons (s_if ((w_or (t_not (t_valD (d_isi isi_tuple T.isinstance T.tuple boot_tuple (d_var 0)))) (w_or (t_eq hu (d_lenV 0 T.len) d_int) (w_or1 (t_not (t_valD (d_isi isi_str T.isinstance T.str boot_str (d_ixV 0 d_int)))))))).t
  (b_one (s_ret (d_bl).dat))
  b_nil)
  (b_cons (s_set 1 nd ((d_ixV 0 d_int)).dat)
  (b_cons (s_if ((w_or (t_eq hu (d_var 1) d_str) (w_or1 (t_eq hu (d_var 1) d_str)))).t
  (b_one (s_ret ((d_eq hu (d_lenV 0 T.len) d_int)).dat))
  b_nil)
  (b_cons (s_if ((w_or (t_eq hu (d_var 1) d_str) (w_or1 (t_eq hu (d_var 1) d_str)))).t
  (b_one (s_ret ((d_eq hu (d_lenV 0 T.len) d_int)).dat))
  b_nil)
  (b_cons (s_if ((w_or (t_eq hu (d_var 1) d_str) (w_or1 (t_eq hu (d_var 1) d_str)))).t
  (b_one (s_ret ((d_eq hu (d_lenV 0 T.len) d_int)).dat))
  b_nil)
  (b_cons (s_if (t_eq hu (d_var 1) d_str)
  (b_one (s_ret ((d_and (d_eq hu (d_lenV 0 T.len) d_int) (d_one ((s_callH d_is_number hr hot tk (a_cons (d_ixV 0 d_int) a_nil) (len_cons len_nil))).frz))).dat))
  b_nil)
  (b_cons (s_if ((w_and (t_eq hu (d_var 1) d_str) (w_and1 (t_eq hu (d_lenV 0 T.len) d_int)))).t
  (b_one (s_ret ((d_and (d_isi isi_str T.isinstance T.str boot_str (d_ixV 0 d_int)) (d_one (d_eq hu (d_len T.len (d_ixV 0 d_int)) d_int)))).dat))
  b_nil)
  (b_one (s_ret (d_bl).dat)))))))))

/-! ### checked -/
abbrev s_checked : Stmt := topS 13
theorem sc_checked : FnScope ["pattern", "waiting", "part", "found"] ["pattern"] (defScope s_checked) := ⟨rfl, rfl, rfl, by decide +kernel, rfl, by decide +kernel, by decide +kernel⟩
noncomputable def b_checked_0 : En → Out Fl :=
  (gSeq (gSet 2 (GM.dat (dPop 1)))
  (gSeq (gIf (tNotD (tVal (frz (sCall F_has_form (dCons (dVar 2) dNil)))))
  (gRaise .bad)
  gNx)
  (gExt 1 (sCall F_inner (dCons (dVar 2) dNil)))))
noncomputable def b_checked_1 : En → Out Fl :=
  (gIf (tAndD (tOrD (op2 fEq (dIxV 2 (dC (.int 0))) (dC (.str "more"))) (op2 fEq (dIxV 2 (dC (.int 0))) (dC (.str "less")))) (tVal (frz (sCall F_takes_nothing (dCons (dIxV 2 (dC (.int 1))) dNil)))))
  (gRaise .empt)
  gNx)
noncomputable def g_checked : En → Out Fl :=
  (gSeq (gSet 1 (dLst (dCons (dVar 0) dNil)))
  (gSeq (gWhile (tTruV 1) b_checked_0)
  (gSeq (gSet 3 (sCall F_numbers (dCons (dVar 0) dNil)))
  (gSeq (gIf (op2 fLt (op1 fLenSet (dVar 3)) (dLenV 3))
  (gRaise .twice)
  gNx)
  (gSeq (gFor (iLst (frz (sCall F_parts (dCons (dVar 0) dNil)))) (gtN 2) b_checked_1)
  (gRetV 0))))))
noncomputable def F_checked : List PyData → Res := runF ["pattern", "waiting", "part", "found"].length ["pattern"].length g_checked
theorem ok_checked {f : Addr} {fd : FuncData} (F : L2.Fun K "checked" "checked" s_checked f fd) (gm : mg "checked" = some (.ref f)) (T : Bi mg) (c_has_form : Fn P w K mg base C 2 "has_form" 1 F_has_form) (c_inner : Fn P w K mg base C 1 "inner" 1 F_inner) (c_numbers : Fn P w K mg base C 3 "numbers" 1 F_numbers) (c_parts : Fn P w K mg base C 2 "parts" 1 F_parts) (c_takes_nothing : Fn P w K mg base C 3 "takes_nothing" 1 F_takes_nothing)  (e_bad : ErrC K mg "BadPattern" (C .bad)) (e_empt : ErrC K mg "EmptyRound" (C .empt)) (e_twice : ErrC K mg "TwiceNumbered" (C .twice))  : Fn P w K mg base C 4 "checked" 1 F_checked := by
  have hb : Binds K fd ["pattern"] [] := F.binds fun _ _ _ _ _ _ us hl => match us, hl with | [_], _ => rfl
  refine fn_mk gm F.kp hb ?_
  refine fn_ok (k := 3) (N := ["pattern", "waiting", "part", "found"]) (ps := ["pattern"]) (g := g_checked) F sc_checked fun cdv A outer s H E hr => ?_
  have nd := sc_checked.nd
  have hu := hr.units
  have hu1 := hu_of hr
  have tk : L2N.Takes (cxOf (L2N.CX P w) P w K mg base ["pattern", "waiting", "part", "found"] "checked" (defScope s_checked) f cdv A outer s H E) (WF E) := L2N.takes_of rfl rfl rfl rfl
  have hp : PassesOwn (model P w) (cxOf (L2N.CX P w) P w K mg base ["pattern", "waiting", "part", "found"] "checked" (defScope s_checked) f cdv A outer s H E).A (cxOf (L2N.CX P w) P w K mg base ["pattern", "waiting", "part", "found"] "checked" (defScope s_checked) f cdv A outer s H E).env (cxOf (L2N.CX P w) P w K mg base ["pattern", "waiting", "part", "found"] "checked" (defScope s_checked) f cdv A outer s H E).xe := passes_of (X := cxOf (L2N.CX P w) P w K mg base ["pattern", "waiting", "part", "found"] "checked" (defScope s_checked) f cdv A outer s H E) rfl
  exact (b_cons (s_set 1 nd (s_lst (a_cons (d_var 0) a_nil) (len_cons len_nil)))
  (b_cons (s_while hp (t_truV 1)
  (b_cons (s_set 2 nd ((d_pop 1)).dat)
  (b_cons (s_if (t_not (t_valD ((s_call c_has_form hr tk (a_cons (d_var 2) a_nil) (len_cons len_nil))).frz))
  (b_one (s_raise e_bad tk))
  b_nil)
  (b_one (s_ext 1 (s_call c_inner hr tk (a_cons (d_var 2) a_nil) (len_cons len_nil)))))))
  (b_cons (s_set 3 nd (s_call c_numbers hr tk (a_cons (d_var 0) a_nil) (len_cons len_nil)))
  (b_cons (s_if (t_lt (d_lenSet T.len T.set (d_var 3)) (d_lenV 3 T.len))
  (b_one (s_raise e_twice tk))
  b_nil)
  (b_cons (s_for hp rfl (i_list ((s_call c_parts hr tk (a_cons (d_var 0) a_nil) (len_cons len_nil))).frz) (g_name 2 nd)
  (b_one (s_if ((w_and ((w_or (t_eq hu (d_ixV 2 d_int) d_str) (w_or1 (t_eq hu (d_ixV 2 d_int) d_str)))).t (w_and1 (t_valD ((s_call c_takes_nothing hr tk (a_cons (d_ixV 2 d_int) a_nil) (len_cons len_nil))).frz)))).t
  (b_one (s_raise e_empt tk))
  b_nil)))
  (b_one (s_retV 0)))))))
theorem okH_checked {f : Addr} {fd : FuncData} (F : L2.Fun K "checked" "checked" s_checked f fd) (gm : mg "checked" = some (.ref f)) (T : Bi mg) (d_has_form : FnD P w K mg base C 2 "has_form" 1 F_has_form) (d_inner : FnD P w K mg base C 1 "inner" 1 F_inner) (d_numbers : FnD P w K mg base C 3 "numbers" 1 F_numbers) (d_parts : FnD P w K mg base C 2 "parts" 1 F_parts) (d_takes_nothing : FnD P w K mg base C 3 "takes_nothing" 1 F_takes_nothing) (e_bad : ErrC K mg "BadPattern" (C .bad)) (e_empt : ErrC K mg "EmptyRound" (C .empt)) (e_twice : ErrC K mg "TwiceNumbered" (C .twice)) : FnD P w K mg base C 4 "checked" 1 F_checked := by
  have hb : Binds K fd ["pattern"] [] := F.binds fun _ _ _ _ _ _ us hl => match us, hl with | [_], _ => rfl
  refine fnD_mk gm F.kp hb ?_
  refine fn_okH (k := 3) (N := ["pattern", "waiting", "part", "found"]) (ps := ["pattern"]) (g := g_checked) F sc_checked fun cdv A outer s H E pp hr hot => ?_
  have nd := sc_checked.nd
  have hu : (L2H.cxH (L2.CX P w) P w K mg base ["pattern", "waiting", "part", "found"] "checked" (defScope s_checked) f cdv A outer s H E pp).A.units + 64 < cLine := huH hr
  have hu1 : (L2H.cxH (L2.CX P w) P w K mg base ["pattern", "waiting", "part", "found"] "checked" (defScope s_checked) f cdv A outer s H E pp).A.units + 1 < cLine := hu1H hr
  have tk : L2.Takes (L2H.cxH (L2.CX P w) P w K mg base ["pattern", "waiting", "part", "found"] "checked" (defScope s_checked) f cdv A outer s H E pp) (WF E) := L2.takes_of rfl rfl rfl rfl
  have hp : PassesOwn (model P w) (L2H.cxH (L2.CX P w) P w K mg base ["pattern", "waiting", "part", "found"] "checked" (defScope s_checked) f cdv A outer s H E pp).A (L2H.cxH (L2.CX P w) P w K mg base ["pattern", "waiting", "part", "found"] "checked" (defScope s_checked) f cdv A outer s H E pp).env (L2H.cxH (L2.CX P w) P w K mg base ["pattern", "waiting", "part", "found"] "checked" (defScope s_checked) f cdv A outer s H E pp).xe := passes_of (X := (L2H.cxH (L2.CX P w) P w K mg base ["pattern", "waiting", "part", "found"] "checked" (defScope s_checked) f cdv A outer s H E pp)) rfl
  exact (b_cons (s_set 1 nd (s_lst (a_cons (d_var 0) a_nil) (len_cons len_nil)))
  (b_cons (s_while hp (t_truV 1)
  (b_cons (s_set 2 nd ((d_pop 1)).dat)
  (b_cons (s_if (t_not (t_valD ((s_callH d_has_form hr hot tk (a_cons (d_var 2) a_nil) (len_cons len_nil))).frz))
  (b_one (s_raiseH hot e_bad tk))
  b_nil)
  (b_one (s_ext 1 (s_callH d_inner hr hot tk (a_cons (d_var 2) a_nil) (len_cons len_nil)))))))
  (b_cons (s_set 3 nd (s_callH d_numbers hr hot tk (a_cons (d_var 0) a_nil) (len_cons len_nil)))
  (b_cons (s_if (t_lt (d_lenSetH hot T.len T.set (d_var 3)) (d_lenV 3 T.len))
  (b_one (s_raiseH hot e_twice tk))
  b_nil)
  (b_cons (s_forH hp hot (iH_list ((s_callH d_parts hr hot tk (a_cons (d_var 0) a_nil) (len_cons len_nil))).frz) (g_name 2 nd)
  (b_one (s_if ((w_and ((w_or (t_eq hu (d_ixV 2 d_int) d_str) (w_or1 (t_eq hu (d_ixV 2 d_int) d_str)))).t (w_and1 (t_valD ((s_callH d_takes_nothing hr hot tk (a_cons (d_ixV 2 d_int) a_nil) (len_cons len_nil))).frz)))).t
  (b_one (s_raiseH hot e_empt tk))
  b_nil)))
  (b_one (s_retV 0)))))))

/-! ### first_state -/
abbrev s_first_state : Stmt := topS 15
theorem sc_first_state : FnScope ["pattern"] ["pattern"] (defScope s_first_state) := ⟨rfl, rfl, rfl, by decide +kernel, rfl, by decide +kernel, by decide +kernel⟩
noncomputable def g_first_state : En → Out Fl :=
  (gRet (GM.dat (dTup (dCons (dTup (dCons (dVar 0) dNil)) (dCons (dC (.int 0)) dNil)))))
noncomputable def F_first_state : List PyData → Res := runF ["pattern"].length ["pattern"].length g_first_state
theorem ok_first_state {f : Addr} {fd : FuncData} (F : L2.Fun K "first_state" "first_state" s_first_state f fd) (gm : mg "first_state" = some (.ref f)) (T : Bi mg)     : Fn P w K mg base C 1 "first_state" 1 F_first_state := by
  have hb : Binds K fd ["pattern"] [] := F.binds fun _ _ _ _ _ _ us hl => match us, hl with | [_], _ => rfl
  refine fn_mk gm F.kp hb ?_
  refine fn_ok (k := 0) (N := ["pattern"]) (ps := ["pattern"]) (g := g_first_state) F sc_first_state fun cdv A outer s H E hr => ?_
  have nd := sc_first_state.nd
  have hu := hr.units
  have hu1 := hu_of hr
  have tk : L2N.Takes (cxOf (L2N.CX P w) P w K mg base ["pattern"] "first_state" (defScope s_first_state) f cdv A outer s H E) (WF E) := L2N.takes_of rfl rfl rfl rfl
  exact (b_one (s_ret ((d_tup (a_cons (d_tup (a_cons (d_var 0) a_nil) (len_cons len_nil)) (a_cons d_int a_nil)) (len_cons (len_cons len_nil)))).dat))
theorem okH_first_state {f : Addr} {fd : FuncData} (F : L2.Fun K "first_state" "first_state" s_first_state f fd) (gm : mg "first_state" = some (.ref f)) (T : Bi mg)   : FnD P w K mg base C 1 "first_state" 1 F_first_state := by
  have hb : Binds K fd ["pattern"] [] := F.binds fun _ _ _ _ _ _ us hl => match us, hl with | [_], _ => rfl
  refine fnD_mk gm F.kp hb ?_
  refine fn_okH (k := 0) (N := ["pattern"]) (ps := ["pattern"]) (g := g_first_state) F sc_first_state fun cdv A outer s H E pp hr hot => ?_
  have nd := sc_first_state.nd
  have hu : (L2H.cxH (L2.CX P w) P w K mg base ["pattern"] "first_state" (defScope s_first_state) f cdv A outer s H E pp).A.units + 64 < cLine := huH hr
  have hu1 : (L2H.cxH (L2.CX P w) P w K mg base ["pattern"] "first_state" (defScope s_first_state) f cdv A outer s H E pp).A.units + 1 < cLine := hu1H hr
  have tk : L2.Takes (L2H.cxH (L2.CX P w) P w K mg base ["pattern"] "first_state" (defScope s_first_state) f cdv A outer s H E pp) (WF E) := L2.takes_of rfl rfl rfl rfl
  exact (b_one (s_ret ((d_tup (a_cons (d_tup (a_cons (d_var 0) a_nil) (len_cons len_nil)) (a_cons d_int a_nil)) (len_cons (len_cons len_nil)))).dat))

/-! ### is_end -/
abbrev s_is_end : Stmt := topS 16
theorem sc_is_end : FnScope ["state", "text"] ["state", "text"] (defScope s_is_end) := ⟨rfl, rfl, rfl, by decide +kernel, rfl, by decide +kernel, by decide +kernel⟩
noncomputable def g_is_end : En → Out Fl :=
  (gRet (GM.dat (dAnd (op2 (boolD fEq) (op1 fLen (dIxV 0 (dC (.int 0)))) (dC (.int 0))) (op2 (boolD fEq) (dIxV 0 (dC (.int 1))) (dLenV 1)))))
noncomputable def F_is_end : List PyData → Res := runF ["state", "text"].length ["state", "text"].length g_is_end
theorem ok_is_end {f : Addr} {fd : FuncData} (F : L2.Fun K "is_end" "is_end" s_is_end f fd) (gm : mg "is_end" = some (.ref f)) (T : Bi mg)     : Fn P w K mg base C 1 "is_end" 2 F_is_end := by
  have hb : Binds K fd ["state", "text"] [] := F.binds fun _ _ _ _ _ _ us hl => match us, hl with | [_, _], _ => rfl
  refine fn_mk gm F.kp hb ?_
  refine fn_ok (k := 0) (N := ["state", "text"]) (ps := ["state", "text"]) (g := g_is_end) F sc_is_end fun cdv A outer s H E hr => ?_
  have nd := sc_is_end.nd
  have hu := hr.units
  have hu1 := hu_of hr
  have tk : L2N.Takes (cxOf (L2N.CX P w) P w K mg base ["state", "text"] "is_end" (defScope s_is_end) f cdv A outer s H E) (WF E) := L2N.takes_of rfl rfl rfl rfl
  exact (b_one (s_ret ((d_and (d_eq hu (d_len T.len (d_ixV 0 d_int)) d_int) (d_one (d_eq hu (d_ixV 0 d_int) (d_lenV 1 T.len))))).dat))
theorem okH_is_end {f : Addr} {fd : FuncData} (F : L2.Fun K "is_end" "is_end" s_is_end f fd) (gm : mg "is_end" = some (.ref f)) (T : Bi mg)   : FnD P w K mg base C 1 "is_end" 2 F_is_end := by
  have hb : Binds K fd ["state", "text"] [] := F.binds fun _ _ _ _ _ _ us hl => match us, hl with | [_, _], _ => rfl
  refine fnD_mk gm F.kp hb ?_
  refine fn_okH (k := 0) (N := ["state", "text"]) (ps := ["state", "text"]) (g := g_is_end) F sc_is_end fun cdv A outer s H E pp hr hot => ?_
  have nd := sc_is_end.nd
  have hu : (L2H.cxH (L2.CX P w) P w K mg base ["state", "text"] "is_end" (defScope s_is_end) f cdv A outer s H E pp).A.units + 64 < cLine := huH hr
  have hu1 : (L2H.cxH (L2.CX P w) P w K mg base ["state", "text"] "is_end" (defScope s_is_end) f cdv A outer s H E pp).A.units + 1 < cLine := hu1H hr
  have tk : L2.Takes (L2H.cxH (L2.CX P w) P w K mg base ["state", "text"] "is_end" (defScope s_is_end) f cdv A outer s H E pp) (WF E) := L2.takes_of rfl rfl rfl rfl
  exact (b_one (s_ret ((d_and (d_eq hu (d_len T.len (d_ixV 0 d_int)) d_int) (d_one (d_eq hu (d_ixV 0 d_int) (d_lenV 1 T.len))))).dat))

/-! ### takes -/
abbrev s_takes : Stmt := topS 17
theorem sc_takes : FnScope ["thing", "text", "place"] ["thing", "text", "place"] (defScope s_takes) := ⟨rfl, rfl, rfl, by decide +kernel, rfl, by decide +kernel, by decide +kernel⟩
noncomputable def g_takes : En → Out Fl :=
  (gSeq (gIf (op2 fGe (dVar 2) (dLenV 1))
  (gRet (GM.dat (dC (.bool false))))
  gNx)
  (gRet (GM.dat (dOr (op2 (boolD fEq) (dIxV 0 (dC (.int 0))) (dC (.str "any"))) (op2 (boolD fEq) (dIxV 1 (dVar 2)) (dIxV 0 (dC (.int 1))))))))
noncomputable def F_takes : List PyData → Res := runF ["thing", "text", "place"].length ["thing", "text", "place"].length g_takes
theorem ok_takes {f : Addr} {fd : FuncData} (F : L2.Fun K "takes" "takes" s_takes f fd) (gm : mg "takes" = some (.ref f)) (T : Bi mg)     : Fn P w K mg base C 1 "takes" 3 F_takes := by
  have hb : Binds K fd ["thing", "text", "place"] [] := F.binds fun _ _ _ _ _ _ us hl => match us, hl with | [_, _, _], _ => rfl
  refine fn_mk gm F.kp hb ?_
  refine fn_ok (k := 0) (N := ["thing", "text", "place"]) (ps := ["thing", "text", "place"]) (g := g_takes) F sc_takes fun cdv A outer s H E hr => ?_
  have nd := sc_takes.nd
  have hu := hr.units
  have hu1 := hu_of hr
  have tk : L2N.Takes (cxOf (L2N.CX P w) P w K mg base ["thing", "text", "place"] "takes" (defScope s_takes) f cdv A outer s H E) (WF E) := L2N.takes_of rfl rfl rfl rfl
  exact (b_cons (s_if (t_ge (d_var 2) (d_lenV 1 T.len))
  (b_one (s_ret (d_bl).dat))
  b_nil)
  (b_one (s_ret ((d_or (d_eq hu (d_ixV 0 d_int) d_str) (d_one (d_eq hu (d_ixV 1 (d_var 2)) (d_ixV 0 d_int))))).dat)))
theorem okH_takes {f : Addr} {fd : FuncData} (F : L2.Fun K "takes" "takes" s_takes f fd) (gm : mg "takes" = some (.ref f)) (T : Bi mg)   : FnD P w K mg base C 1 "takes" 3 F_takes := by
  have hb : Binds K fd ["thing", "text", "place"] [] := F.binds fun _ _ _ _ _ _ us hl => match us, hl with | [_, _, _], _ => rfl
  refine fnD_mk gm F.kp hb ?_
  refine fn_okH (k := 0) (N := ["thing", "text", "place"]) (ps := ["thing", "text", "place"]) (g := g_takes) F sc_takes fun cdv A outer s H E pp hr hot => ?_
  have nd := sc_takes.nd
  have hu : (L2H.cxH (L2.CX P w) P w K mg base ["thing", "text", "place"] "takes" (defScope s_takes) f cdv A outer s H E pp).A.units + 64 < cLine := huH hr
  have hu1 : (L2H.cxH (L2.CX P w) P w K mg base ["thing", "text", "place"] "takes" (defScope s_takes) f cdv A outer s H E pp).A.units + 1 < cLine := hu1H hr
  have tk : L2.Takes (L2H.cxH (L2.CX P w) P w K mg base ["thing", "text", "place"] "takes" (defScope s_takes) f cdv A outer s H E pp) (WF E) := L2.takes_of rfl rfl rfl rfl
  exact (b_cons (s_if (t_ge (d_var 2) (d_lenV 1 T.len))
  (b_one (s_ret (d_bl).dat))
  b_nil)
  (b_one (s_ret ((d_or (d_eq hu (d_ixV 0 d_int) d_str) (d_one (d_eq hu (d_ixV 1 (d_var 2)) (d_ixV 0 d_int))))).dat)))

/-! ### onward -/
abbrev s_onward : Stmt := topS 18
theorem sc_onward : FnScope ["state", "text", "rest", "place", "thing", "behind", "kind", "again"] ["state", "text"] (defScope s_onward) := ⟨rfl, rfl, rfl, by decide +kernel, rfl, by decide +kernel, by decide +kernel⟩
noncomputable def g_onward : En → Out Fl :=
  (gSeq (gSet 2 (GM.dat (dIxV 0 (dC (.int 0)))))
  (gSeq (gSet 3 (GM.dat (dIxV 0 (dC (.int 1)))))
  (gSeq (gIf (op2 fEq (dLenV 2) (dC (.int 0)))
  (gRet (dLst dNil))
  gNx)
  (gSeq (gSet 4 (GM.dat (dIxV 2 (dC (.int 0)))))
  (gSeq (gSet 5 (dSl (dVar 2) (oSome (dC (.int 1))) oNone))
  (gSeq (gSet 6 (GM.dat (dIxV 4 (dC (.int 0)))))
  (gSeq (gIf (tOrD (op2 fEq (dVar 6) (dC (.str "sign"))) (op2 fEq (dVar 6) (dC (.str "any"))))
  (gSeq (gIf (tVal (frz (sCall F_takes (dCons (dVar 4) (dCons (dVar 1) (dCons (dVar 3) dNil))))))
  (gRet (dLst (dCons (dTup (dCons (dVar 5) (dCons (frz (op2 fAdd (dVar 3) (dC (.int 1)))) dNil))) dNil)))
  gNx)
  (gRet (dLst dNil)))
  gNx)
  (gSeq (gIf (tOrD (op2 fEq (dVar 6) (dC (.str "none"))) (op2 fEq (dVar 6) (dC (.str "close"))))
  (gRet (dLst (dCons (dTup (dCons (dVar 5) (dCons (dVar 3) dNil))) dNil)))
  gNx)
  (gSeq (gIf (op2 fEq (dVar 6) (dC (.str "row")))
  (gRet (dLst (dCons (dTup (dCons (frz (op2 fAdd (dTup (dCons (dIxV 4 (dC (.int 1))) (dCons (dIxV 4 (dC (.int 2))) dNil))) (dVar 5))) (dCons (dVar 3) dNil))) dNil)))
  gNx)
  (gSeq (gIf (op2 fEq (dVar 6) (dC (.str "or")))
  (gRet (dLst (dCons (dTup (dCons (frz (op2 fAdd (dTup (dCons (dIxV 4 (dC (.int 1))) dNil)) (dVar 5))) (dCons (dVar 3) dNil))) (dCons (dTup (dCons (frz (op2 fAdd (dTup (dCons (dIxV 4 (dC (.int 2))) dNil)) (dVar 5))) (dCons (dVar 3) dNil))) dNil))))
  gNx)
  (gSeq (gIf (op2 fEq (dVar 6) (dC (.str "group")))
  (gRet (dLst (dCons (dTup (dCons (frz (op2 fAdd (dTup (dCons (dIxV 4 (dC (.int 2))) (dCons (dTup (dCons (dC (.str "close")) (dCons (dIxV 4 (dC (.int 1))) dNil))) dNil))) (dVar 5))) (dCons (dVar 3) dNil))) dNil)))
  gNx)
  (gSeq (gSet 7 (GM.dat (dTup (dCons (frz (op2 fAdd (dTup (dCons (dIxV 4 (dC (.int 1))) (dCons (dVar 4) dNil))) (dVar 5))) (dCons (dVar 3) dNil)))))
  (gSeq (gIf (op2 fEq (dVar 6) (dC (.str "more")))
  (gRet (dLst (dCons (dVar 7) (dCons (dTup (dCons (dVar 5) (dCons (dVar 3) dNil))) dNil))))
  gNx)
  (gRet (dLst (dCons (dTup (dCons (dVar 5) (dCons (dVar 3) dNil))) (dCons (dVar 7) dNil)))))))))))))))))
noncomputable def F_onward : List PyData → Res := runF ["state", "text", "rest", "place", "thing", "behind", "kind", "again"].length ["state", "text"].length g_onward
theorem ok_onward {f : Addr} {fd : FuncData} (F : L2.Fun K "onward" "onward" s_onward f fd) (gm : mg "onward" = some (.ref f)) (T : Bi mg) (c_takes : Fn P w K mg base C 1 "takes" 3 F_takes)    : Fn P w K mg base C 2 "onward" 2 F_onward := by
  have hb : Binds K fd ["state", "text"] [] := F.binds fun _ _ _ _ _ _ us hl => match us, hl with | [_, _], _ => rfl
  refine fn_mk gm F.kp hb ?_
  refine fn_ok (k := 1) (N := ["state", "text", "rest", "place", "thing", "behind", "kind", "again"]) (ps := ["state", "text"]) (g := g_onward) F sc_onward fun cdv A outer s H E hr => ?_
  have nd := sc_onward.nd
  have hu := hr.units
  have hu1 := hu_of hr
  have tk : L2N.Takes (cxOf (L2N.CX P w) P w K mg base ["state", "text", "rest", "place", "thing", "behind", "kind", "again"] "onward" (defScope s_onward) f cdv A outer s H E) (WF E) := L2N.takes_of rfl rfl rfl rfl
  exact (b_cons (s_set 2 nd ((d_ixV 0 d_int)).dat)
  (b_cons (s_set 3 nd ((d_ixV 0 d_int)).dat)
  (b_cons (s_if (t_eq hu (d_lenV 2 T.len) d_int)
  (b_one (s_ret (s_lst a_nil len_nil)))
  b_nil)
  (b_cons (s_set 4 nd ((d_ixV 2 d_int)).dat)
  (b_cons (s_set 5 nd (s_slice (d_var 2) (o_some d_int) o_none))
  (b_cons (s_set 6 nd ((d_ixV 4 d_int)).dat)
  (b_cons (s_if ((w_or (t_eq hu (d_var 6) d_str) (w_or1 (t_eq hu (d_var 6) d_str)))).t
  (b_cons (s_if (t_valD ((s_call c_takes hr tk (a_cons (d_var 4) (a_cons (d_var 1) (a_cons (d_var 3) a_nil))) (len_cons (len_cons (len_cons len_nil))))).frz)
  (b_one (s_ret (s_lst (a_cons (d_tup (a_cons (d_var 5) (a_cons ((s_add (d_var 3) d_int)).frz a_nil)) (len_cons (len_cons len_nil))) a_nil) (len_cons len_nil))))
  b_nil)
  (b_one (s_ret (s_lst a_nil len_nil))))
  b_nil)
  (b_cons (s_if ((w_or (t_eq hu (d_var 6) d_str) (w_or1 (t_eq hu (d_var 6) d_str)))).t
  (b_one (s_ret (s_lst (a_cons (d_tup (a_cons (d_var 5) (a_cons (d_var 3) a_nil)) (len_cons (len_cons len_nil))) a_nil) (len_cons len_nil))))
  b_nil)
  (b_cons (s_if (t_eq hu (d_var 6) d_str)
  (b_one (s_ret (s_lst (a_cons (d_tup (a_cons ((s_add (d_tup (a_cons (d_ixV 4 d_int) (a_cons (d_ixV 4 d_int) a_nil)) (len_cons (len_cons len_nil))) (d_var 5))).frz (a_cons (d_var 3) a_nil)) (len_cons (len_cons len_nil))) a_nil) (len_cons len_nil))))
  b_nil)
  (b_cons (s_if (t_eq hu (d_var 6) d_str)
  (b_one (s_ret (s_lst (a_cons (d_tup (a_cons ((s_add (d_tup (a_cons (d_ixV 4 d_int) a_nil) (len_cons len_nil)) (d_var 5))).frz (a_cons (d_var 3) a_nil)) (len_cons (len_cons len_nil))) (a_cons (d_tup (a_cons ((s_add (d_tup (a_cons (d_ixV 4 d_int) a_nil) (len_cons len_nil)) (d_var 5))).frz (a_cons (d_var 3) a_nil)) (len_cons (len_cons len_nil))) a_nil)) (len_cons (len_cons len_nil)))))
  b_nil)
  (b_cons (s_if (t_eq hu (d_var 6) d_str)
  (b_one (s_ret (s_lst (a_cons (d_tup (a_cons ((s_add (d_tup (a_cons (d_ixV 4 d_int) (a_cons (d_tup (a_cons d_str (a_cons (d_ixV 4 d_int) a_nil)) (len_cons (len_cons len_nil))) a_nil)) (len_cons (len_cons len_nil))) (d_var 5))).frz (a_cons (d_var 3) a_nil)) (len_cons (len_cons len_nil))) a_nil) (len_cons len_nil))))
  b_nil)
  (b_cons (s_set 7 nd ((d_tup (a_cons ((s_add (d_tup (a_cons (d_ixV 4 d_int) (a_cons (d_var 4) a_nil)) (len_cons (len_cons len_nil))) (d_var 5))).frz (a_cons (d_var 3) a_nil)) (len_cons (len_cons len_nil)))).dat)
  (b_cons (s_if (t_eq hu (d_var 6) d_str)
  (b_one (s_ret (s_lst (a_cons (d_var 7) (a_cons (d_tup (a_cons (d_var 5) (a_cons (d_var 3) a_nil)) (len_cons (len_cons len_nil))) a_nil)) (len_cons (len_cons len_nil)))))
  b_nil)
  (b_one (s_ret (s_lst (a_cons (d_tup (a_cons (d_var 5) (a_cons (d_var 3) a_nil)) (len_cons (len_cons len_nil))) (a_cons (d_var 7) a_nil)) (len_cons (len_cons len_nil))))))))))))))))))
theorem okH_onward {f : Addr} {fd : FuncData} (F : L2.Fun K "onward" "onward" s_onward f fd) (gm : mg "onward" = some (.ref f)) (T : Bi mg) (d_takes : FnD P w K mg base C 1 "takes" 3 F_takes)  : FnD P w K mg base C 2 "onward" 2 F_onward := by
  have hb : Binds K fd ["state", "text"] [] := F.binds fun _ _ _ _ _ _ us hl => match us, hl with | [_, _], _ => rfl
  refine fnD_mk gm F.kp hb ?_
  refine fn_okH (k := 1) (N := ["state", "text", "rest", "place", "thing", "behind", "kind", "again"]) (ps := ["state", "text"]) (g := g_onward) F sc_onward fun cdv A outer s H E pp hr hot => ?_
  have nd := sc_onward.nd
  have hu : (L2H.cxH (L2.CX P w) P w K mg base ["state", "text", "rest", "place", "thing", "behind", "kind", "again"] "onward" (defScope s_onward) f cdv A outer s H E pp).A.units + 64 < cLine := huH hr
  have hu1 : (L2H.cxH (L2.CX P w) P w K mg base ["state", "text", "rest", "place", "thing", "behind", "kind", "again"] "onward" (defScope s_onward) f cdv A outer s H E pp).A.units + 1 < cLine := hu1H hr
  have tk : L2.Takes (L2H.cxH (L2.CX P w) P w K mg base ["state", "text", "rest", "place", "thing", "behind", "kind", "again"] "onward" (defScope s_onward) f cdv A outer s H E pp) (WF E) := L2.takes_of rfl rfl rfl rfl
  exact (b_cons (s_set 2 nd ((d_ixV 0 d_int)).dat)
  (b_cons (s_set 3 nd ((d_ixV 0 d_int)).dat)
  (b_cons (s_if (t_eq hu (d_lenV 2 T.len) d_int)
  (b_one (s_ret (s_lst a_nil len_nil)))
  b_nil)
  (b_cons (s_set 4 nd ((d_ixV 2 d_int)).dat)
  (b_cons (s_set 5 nd (s_slice (d_var 2) (o_some d_int) o_none))
  (b_cons (s_set 6 nd ((d_ixV 4 d_int)).dat)
  (b_cons (s_if ((w_or (t_eq hu (d_var 6) d_str) (w_or1 (t_eq hu (d_var 6) d_str)))).t
  (b_cons (s_if (t_valD ((s_callH d_takes hr hot tk (a_cons (d_var 4) (a_cons (d_var 1) (a_cons (d_var 3) a_nil))) (len_cons (len_cons (len_cons len_nil))))).frz)
  (b_one (s_ret (s_lst (a_cons (d_tup (a_cons (d_var 5) (a_cons ((s_add (d_var 3) d_int)).frz a_nil)) (len_cons (len_cons len_nil))) a_nil) (len_cons len_nil))))
  b_nil)
  (b_one (s_ret (s_lst a_nil len_nil))))
  b_nil)
  (b_cons (s_if ((w_or (t_eq hu (d_var 6) d_str) (w_or1 (t_eq hu (d_var 6) d_str)))).t
  (b_one (s_ret (s_lst (a_cons (d_tup (a_cons (d_var 5) (a_cons (d_var 3) a_nil)) (len_cons (len_cons len_nil))) a_nil) (len_cons len_nil))))
  b_nil)
  (b_cons (s_if (t_eq hu (d_var 6) d_str)
  (b_one (s_ret (s_lst (a_cons (d_tup (a_cons ((s_add (d_tup (a_cons (d_ixV 4 d_int) (a_cons (d_ixV 4 d_int) a_nil)) (len_cons (len_cons len_nil))) (d_var 5))).frz (a_cons (d_var 3) a_nil)) (len_cons (len_cons len_nil))) a_nil) (len_cons len_nil))))
  b_nil)
  (b_cons (s_if (t_eq hu (d_var 6) d_str)
  (b_one (s_ret (s_lst (a_cons (d_tup (a_cons ((s_add (d_tup (a_cons (d_ixV 4 d_int) a_nil) (len_cons len_nil)) (d_var 5))).frz (a_cons (d_var 3) a_nil)) (len_cons (len_cons len_nil))) (a_cons (d_tup (a_cons ((s_add (d_tup (a_cons (d_ixV 4 d_int) a_nil) (len_cons len_nil)) (d_var 5))).frz (a_cons (d_var 3) a_nil)) (len_cons (len_cons len_nil))) a_nil)) (len_cons (len_cons len_nil)))))
  b_nil)
  (b_cons (s_if (t_eq hu (d_var 6) d_str)
  (b_one (s_ret (s_lst (a_cons (d_tup (a_cons ((s_add (d_tup (a_cons (d_ixV 4 d_int) (a_cons (d_tup (a_cons d_str (a_cons (d_ixV 4 d_int) a_nil)) (len_cons (len_cons len_nil))) a_nil)) (len_cons (len_cons len_nil))) (d_var 5))).frz (a_cons (d_var 3) a_nil)) (len_cons (len_cons len_nil))) a_nil) (len_cons len_nil))))
  b_nil)
  (b_cons (s_set 7 nd ((d_tup (a_cons ((s_add (d_tup (a_cons (d_ixV 4 d_int) (a_cons (d_var 4) a_nil)) (len_cons (len_cons len_nil))) (d_var 5))).frz (a_cons (d_var 3) a_nil)) (len_cons (len_cons len_nil)))).dat)
  (b_cons (s_if (t_eq hu (d_var 6) d_str)
  (b_one (s_ret (s_lst (a_cons (d_var 7) (a_cons (d_tup (a_cons (d_var 5) (a_cons (d_var 3) a_nil)) (len_cons (len_cons len_nil))) a_nil)) (len_cons (len_cons len_nil)))))
  b_nil)
  (b_one (s_ret (s_lst (a_cons (d_tup (a_cons (d_var 5) (a_cons (d_var 3) a_nil)) (len_cons (len_cons len_nil))) (a_cons (d_var 7) a_nil)) (len_cons (len_cons len_nil))))))))))))))))))

/-! ### number_at -/
abbrev s_number_at : Stmt := topS 20
theorem sc_number_at : FnScope ["way", "place", "turn"] ["way", "place"] (defScope s_number_at) := ⟨rfl, rfl, rfl, by decide +kernel, rfl, by decide +kernel, by decide +kernel⟩
noncomputable def g_number_at : En → Out Fl :=
  (gSeq (gIf (op2 fGe (dVar 1) (dLenV 0))
  (gRaise .way)
  gNx)
  (gSeq (gSet 2 (GM.dat (dIxV 0 (dVar 1))))
  (gSeq (gIf (tOrD (tNotD (tVal (op1 (fIsi "int") (dVar 2)))) (tOrD (tVal (op1 (fIsi "bool") (dVar 2))) (tOrD (op2 fLt (dVar 2) (dC (.int 0))) (op2 fGt (dVar 2) (dC (.int 1))))))
  (gRaise .way)
  gNx)
  (gRetV 2))))
noncomputable def F_number_at : List PyData → Res := runF ["way", "place", "turn"].length ["way", "place"].length g_number_at
theorem ok_number_at {f : Addr} {fd : FuncData} (F : L2.Fun K "number_at" "number_at" s_number_at f fd) (gm : mg "number_at" = some (.ref f)) (T : Bi mg)   (e_way : ErrC K mg "BadWay" (C .way))  : Fn P w K mg base C 1 "number_at" 2 F_number_at := by
  have hb : Binds K fd ["way", "place"] [] := F.binds fun _ _ _ _ _ _ us hl => match us, hl with | [_, _], _ => rfl
  refine fn_mk gm F.kp hb ?_
  refine fn_ok (k := 0) (N := ["way", "place", "turn"]) (ps := ["way", "place"]) (g := g_number_at) F sc_number_at fun cdv A outer s H E hr => ?_
  have nd := sc_number_at.nd
  have hu := hr.units
  have hu1 := hu_of hr
  have tk : L2N.Takes (cxOf (L2N.CX P w) P w K mg base ["way", "place", "turn"] "number_at" (defScope s_number_at) f cdv A outer s H E) (WF E) := L2N.takes_of rfl rfl rfl rfl
  exact (b_cons (s_if (t_ge (d_var 1) (d_lenV 0 T.len))
  (b_one (s_raise e_way tk))
  b_nil)
  (b_cons (s_set 2 nd ((d_ixV 0 (d_var 1))).dat)
  (b_cons (s_if ((w_or (t_not (t_valD (d_isi isi_int T.isinstance T.int boot_int (d_var 2)))) (w_or (t_valD (d_isi isi_bool T.isinstance T.bool boot_bool (d_var 2))) (w_or (t_lt (d_var 2) d_int) (w_or1 (t_gt (d_var 2) d_int)))))).t
  (b_one (s_raise e_way tk))
  b_nil)
  (b_one (s_retV 2)))))
theorem okH_number_at {f : Addr} {fd : FuncData} (F : L2.Fun K "number_at" "number_at" s_number_at f fd) (gm : mg "number_at" = some (.ref f)) (T : Bi mg)  (e_way : ErrC K mg "BadWay" (C .way)) : FnD P w K mg base C 1 "number_at" 2 F_number_at := by
  have hb : Binds K fd ["way", "place"] [] := F.binds fun _ _ _ _ _ _ us hl => match us, hl with | [_, _], _ => rfl
  refine fnD_mk gm F.kp hb ?_
  refine fn_okH (k := 0) (N := ["way", "place", "turn"]) (ps := ["way", "place"]) (g := g_number_at) F sc_number_at fun cdv A outer s H E pp hr hot => ?_
  have nd := sc_number_at.nd
  have hu : (L2H.cxH (L2.CX P w) P w K mg base ["way", "place", "turn"] "number_at" (defScope s_number_at) f cdv A outer s H E pp).A.units + 64 < cLine := huH hr
  have hu1 : (L2H.cxH (L2.CX P w) P w K mg base ["way", "place", "turn"] "number_at" (defScope s_number_at) f cdv A outer s H E pp).A.units + 1 < cLine := hu1H hr
  have tk : L2.Takes (L2H.cxH (L2.CX P w) P w K mg base ["way", "place", "turn"] "number_at" (defScope s_number_at) f cdv A outer s H E pp) (WF E) := L2.takes_of rfl rfl rfl rfl
  exact (b_cons (s_if (t_ge (d_var 1) (d_lenV 0 T.len))
  (b_one (s_raiseH hot e_way tk))
  b_nil)
  (b_cons (s_set 2 nd ((d_ixV 0 (d_var 1))).dat)
  (b_cons (s_if ((w_or (t_not (t_valD (d_isi isi_int T.isinstance T.int boot_int (d_var 2)))) (w_or (t_valD (d_isi isi_bool T.isinstance T.bool boot_bool (d_var 2))) (w_or (t_lt (d_var 2) d_int) (w_or1 (t_gt (d_var 2) d_int)))))).t
  (b_one (s_raiseH hot e_way tk))
  b_nil)
  (b_one (s_retV 2)))))

/-! ### walk -/
abbrev s_walk : Stmt := topS 21
theorem sc_walk : FnScope ["pattern", "text", "way", "state", "found", "used", "goes", "turn"] ["pattern", "text", "way"] (defScope s_walk) := ⟨rfl, rfl, rfl, by decide +kernel, rfl, by decide +kernel, by decide +kernel⟩
noncomputable def b_walk_0 : En → Out Fl :=
  (gSeq (gSet 7 (GM.dat (dC (.int 0))))
  (gSeq (gIf (op2 fEq (dLenV 6) (dC (.int 2)))
  (gSeq (gSet 7 (sCall F_number_at (dCons (dVar 2) (dCons (dVar 5) dNil))))
  (gSet 5 (op2 fAdd (dVar 5) (dC (.int 1)))))
  gNx)
  (gSeq (gSet 3 (GM.dat (dIxV 6 (dVar 7))))
  (gSeq (gApp 4 (dVar 3))
  (gSet 6 (sCall F_onward (dCons (dVar 3) (dCons (dVar 1) dNil))))))))
noncomputable def g_walk : En → Out Fl :=
  (gSeq (gSet 3 (sCall F_first_state (dCons (frz (sCall F_checked (dCons (dVar 0) dNil))) dNil)))
  (gSeq (gSet 4 (dLst (dCons (dVar 3) dNil)))
  (gSeq (gSet 5 (GM.dat (dC (.int 0))))
  (gSeq (gSet 6 (sCall F_onward (dCons (dVar 3) (dCons (dVar 1) dNil))))
  (gSeq (gWhile (tTruV 6) b_walk_0)
  (gSeq (gIf (tNotD (tVal (frz (sCall F_is_end (dCons (dVar 3) (dCons (dVar 1) dNil))))))
  (gRaise .way)
  gNx)
  (gSeq (gIf (op2 fLt (dVar 5) (dLenV 2))
  (gRaise .way)
  gNx)
  (gRetV 4))))))))
noncomputable def F_walk : List PyData → Res := runF ["pattern", "text", "way", "state", "found", "used", "goes", "turn"].length ["pattern", "text", "way"].length g_walk
theorem ok_walk {f : Addr} {fd : FuncData} (F : L2.Fun K "walk" "walk" s_walk f fd) (gm : mg "walk" = some (.ref f)) (T : Bi mg) (c_checked : Fn P w K mg base C 4 "checked" 1 F_checked) (c_first_state : Fn P w K mg base C 1 "first_state" 1 F_first_state) (c_is_end : Fn P w K mg base C 1 "is_end" 2 F_is_end) (c_number_at : Fn P w K mg base C 1 "number_at" 2 F_number_at) (c_onward : Fn P w K mg base C 2 "onward" 2 F_onward)  (e_way : ErrC K mg "BadWay" (C .way))  : Fn P w K mg base C 5 "walk" 3 F_walk := by
  have hb : Binds K fd ["pattern", "text", "way"] [] := F.binds fun _ _ _ _ _ _ us hl => match us, hl with | [_, _, _], _ => rfl
  refine fn_mk gm F.kp hb ?_
  refine fn_ok (k := 4) (N := ["pattern", "text", "way", "state", "found", "used", "goes", "turn"]) (ps := ["pattern", "text", "way"]) (g := g_walk) F sc_walk fun cdv A outer s H E hr => ?_
  have nd := sc_walk.nd
  have hu := hr.units
  have hu1 := hu_of hr
  have tk : L2N.Takes (cxOf (L2N.CX P w) P w K mg base ["pattern", "text", "way", "state", "found", "used", "goes", "turn"] "walk" (defScope s_walk) f cdv A outer s H E) (WF E) := L2N.takes_of rfl rfl rfl rfl
  have hp : PassesOwn (model P w) (cxOf (L2N.CX P w) P w K mg base ["pattern", "text", "way", "state", "found", "used", "goes", "turn"] "walk" (defScope s_walk) f cdv A outer s H E).A (cxOf (L2N.CX P w) P w K mg base ["pattern", "text", "way", "state", "found", "used", "goes", "turn"] "walk" (defScope s_walk) f cdv A outer s H E).env (cxOf (L2N.CX P w) P w K mg base ["pattern", "text", "way", "state", "found", "used", "goes", "turn"] "walk" (defScope s_walk) f cdv A outer s H E).xe := passes_of (X := cxOf (L2N.CX P w) P w K mg base ["pattern", "text", "way", "state", "found", "used", "goes", "turn"] "walk" (defScope s_walk) f cdv A outer s H E) rfl
  exact (b_cons (s_set 3 nd (s_call c_first_state hr tk (a_cons ((s_call c_checked hr tk (a_cons (d_var 0) a_nil) (len_cons len_nil))).frz a_nil) (len_cons len_nil)))
  (b_cons (s_set 4 nd (s_lst (a_cons (d_var 3) a_nil) (len_cons len_nil)))
  (b_cons (s_set 5 nd (d_int).dat)
  (b_cons (s_set 6 nd (s_call c_onward hr tk (a_cons (d_var 3) (a_cons (d_var 1) a_nil)) (len_cons (len_cons len_nil))))
  (b_cons (s_while hp (t_truV 6)
  (b_cons (s_set 7 nd (d_int).dat)
  (b_cons (s_if (t_eq hu (d_lenV 6 T.len) d_int)
  (b_cons (s_set 7 nd (s_call c_number_at hr tk (a_cons (d_var 2) (a_cons (d_var 5) a_nil)) (len_cons (len_cons len_nil))))
  (b_one (s_set 5 nd (s_add (d_var 5) d_int))))
  b_nil)
  (b_cons (s_set 3 nd ((d_ixV 6 (d_var 7))).dat)
  (b_cons (s_app 4 (d_var 3))
  (b_one (s_set 6 nd (s_call c_onward hr tk (a_cons (d_var 3) (a_cons (d_var 1) a_nil)) (len_cons (len_cons len_nil))))))))))
  (b_cons (s_if (t_not (t_valD ((s_call c_is_end hr tk (a_cons (d_var 3) (a_cons (d_var 1) a_nil)) (len_cons (len_cons len_nil)))).frz))
  (b_one (s_raise e_way tk))
  b_nil)
  (b_cons (s_if (t_lt (d_var 5) (d_lenV 2 T.len))
  (b_one (s_raise e_way tk))
  b_nil)
  (b_one (s_retV 4)))))))))
theorem okH_walk {f : Addr} {fd : FuncData} (F : L2.Fun K "walk" "walk" s_walk f fd) (gm : mg "walk" = some (.ref f)) (T : Bi mg) (d_checked : FnD P w K mg base C 4 "checked" 1 F_checked) (d_first_state : FnD P w K mg base C 1 "first_state" 1 F_first_state) (d_is_end : FnD P w K mg base C 1 "is_end" 2 F_is_end) (d_number_at : FnD P w K mg base C 1 "number_at" 2 F_number_at) (d_onward : FnD P w K mg base C 2 "onward" 2 F_onward) (e_way : ErrC K mg "BadWay" (C .way)) : FnD P w K mg base C 5 "walk" 3 F_walk := by
  have hb : Binds K fd ["pattern", "text", "way"] [] := F.binds fun _ _ _ _ _ _ us hl => match us, hl with | [_, _, _], _ => rfl
  refine fnD_mk gm F.kp hb ?_
  refine fn_okH (k := 4) (N := ["pattern", "text", "way", "state", "found", "used", "goes", "turn"]) (ps := ["pattern", "text", "way"]) (g := g_walk) F sc_walk fun cdv A outer s H E pp hr hot => ?_
  have nd := sc_walk.nd
  have hu : (L2H.cxH (L2.CX P w) P w K mg base ["pattern", "text", "way", "state", "found", "used", "goes", "turn"] "walk" (defScope s_walk) f cdv A outer s H E pp).A.units + 64 < cLine := huH hr
  have hu1 : (L2H.cxH (L2.CX P w) P w K mg base ["pattern", "text", "way", "state", "found", "used", "goes", "turn"] "walk" (defScope s_walk) f cdv A outer s H E pp).A.units + 1 < cLine := hu1H hr
  have tk : L2.Takes (L2H.cxH (L2.CX P w) P w K mg base ["pattern", "text", "way", "state", "found", "used", "goes", "turn"] "walk" (defScope s_walk) f cdv A outer s H E pp) (WF E) := L2.takes_of rfl rfl rfl rfl
  have hp : PassesOwn (model P w) (L2H.cxH (L2.CX P w) P w K mg base ["pattern", "text", "way", "state", "found", "used", "goes", "turn"] "walk" (defScope s_walk) f cdv A outer s H E pp).A (L2H.cxH (L2.CX P w) P w K mg base ["pattern", "text", "way", "state", "found", "used", "goes", "turn"] "walk" (defScope s_walk) f cdv A outer s H E pp).env (L2H.cxH (L2.CX P w) P w K mg base ["pattern", "text", "way", "state", "found", "used", "goes", "turn"] "walk" (defScope s_walk) f cdv A outer s H E pp).xe := passes_of (X := (L2H.cxH (L2.CX P w) P w K mg base ["pattern", "text", "way", "state", "found", "used", "goes", "turn"] "walk" (defScope s_walk) f cdv A outer s H E pp)) rfl
  exact (b_cons (s_set 3 nd (s_callH d_first_state hr hot tk (a_cons ((s_callH d_checked hr hot tk (a_cons (d_var 0) a_nil) (len_cons len_nil))).frz a_nil) (len_cons len_nil)))
  (b_cons (s_set 4 nd (s_lst (a_cons (d_var 3) a_nil) (len_cons len_nil)))
  (b_cons (s_set 5 nd (d_int).dat)
  (b_cons (s_set 6 nd (s_callH d_onward hr hot tk (a_cons (d_var 3) (a_cons (d_var 1) a_nil)) (len_cons (len_cons len_nil))))
  (b_cons (s_while hp (t_truV 6)
  (b_cons (s_set 7 nd (d_int).dat)
  (b_cons (s_if (t_eq hu (d_lenV 6 T.len) d_int)
  (b_cons (s_set 7 nd (s_callH d_number_at hr hot tk (a_cons (d_var 2) (a_cons (d_var 5) a_nil)) (len_cons (len_cons len_nil))))
  (b_one (s_set 5 nd (s_add (d_var 5) d_int))))
  b_nil)
  (b_cons (s_set 3 nd ((d_ixV 6 (d_var 7))).dat)
  (b_cons (s_app 4 (d_var 3))
  (b_one (s_set 6 nd (s_callH d_onward hr hot tk (a_cons (d_var 3) (a_cons (d_var 1) a_nil)) (len_cons (len_cons len_nil))))))))))
  (b_cons (s_if (t_not (t_valD ((s_callH d_is_end hr hot tk (a_cons (d_var 3) (a_cons (d_var 1) a_nil)) (len_cons (len_cons len_nil)))).frz))
  (b_one (s_raiseH hot e_way tk))
  b_nil)
  (b_cons (s_if (t_lt (d_var 5) (d_lenV 2 T.len))
  (b_one (s_raiseH hot e_way tk))
  b_nil)
  (b_one (s_retV 4)))))))))

/-! ### _law_cell_at -/
abbrev s__law_cell_at : Stmt := topS 23
theorem sc__law_cell_at : FnScope ["_law_script", "_law_k"] ["_law_script", "_law_k"] (defScope s__law_cell_at) := ⟨rfl, rfl, rfl, by decide +kernel, rfl, by decide +kernel, by decide +kernel⟩
noncomputable def g__law_cell_at : En → Out Fl :=
  (gSeq (gIf (op2 fLt (dVar 1) (dLenV 0))
  (gRet (GM.dat (dIxV 0 (dVar 1))))
  gNx)
  (gRet (GM.dat (dC (.int 0)))))
noncomputable def F__law_cell_at : List PyData → Res := runF ["_law_script", "_law_k"].length ["_law_script", "_law_k"].length g__law_cell_at
theorem ok__law_cell_at {f : Addr} {fd : FuncData} (F : L2.Fun K "_law_cell_at" "_law_cell_at" s__law_cell_at f fd) (gm : mg "_law_cell_at" = some (.ref f)) (T : Bi mg)     : Fn P w K mg base C 1 "_law_cell_at" 2 F__law_cell_at := by
  have hb : Binds K fd ["_law_script", "_law_k"] [] := F.binds fun _ _ _ _ _ _ us hl => match us, hl with | [_, _], _ => rfl
  refine fn_mk gm F.kp hb ?_
  refine fn_ok (k := 0) (N := ["_law_script", "_law_k"]) (ps := ["_law_script", "_law_k"]) (g := g__law_cell_at) F sc__law_cell_at fun cdv A outer s H E hr => ?_
  have nd := sc__law_cell_at.nd
  have hu := hr.units
  have hu1 := hu_of hr
  have tk : L2N.Takes (cxOf (L2N.CX P w) P w K mg base ["_law_script", "_law_k"] "_law_cell_at" (defScope s__law_cell_at) f cdv A outer s H E) (WF E) := L2N.takes_of rfl rfl rfl rfl
  exact (b_cons (s_if (t_lt (d_var 1) (d_lenV 0 T.len))
  (b_one (s_ret ((d_ixV 0 (d_var 1))).dat))
  b_nil)
  (b_one (s_ret (d_int).dat)))

/-! ### _law_sign -/
abbrev s__law_sign : Stmt := topS 24
theorem sc__law_sign : FnScope ["_law_cell", "_law_some"] ["_law_cell"] (defScope s__law_sign) := ⟨rfl, rfl, rfl, by decide +kernel, rfl, by decide +kernel, by decide +kernel⟩
noncomputable def g__law_sign : En → Out Fl :=
  (gSeq (gSet 1 (GM.dat (dC (.str " !\"#$&'()*+,-./0123456789:;<=>?@ABCDEFGHIJKLMNOPQRSTUVWXYZ[\\]^_`"))))
  (gSeq (gSet 1 (op2 fAdd (dVar 1) (dC (.str "abcdefghijklmnopqrstuvwxyz{|}~\n"))))
  (gRet (GM.dat (dIxV 1 (op2 fMod (dVar 0) (dC (.int 95))))))))
noncomputable def F__law_sign : List PyData → Res := runF ["_law_cell", "_law_some"].length ["_law_cell"].length g__law_sign
theorem ok__law_sign {f : Addr} {fd : FuncData} (F : L2.Fun K "_law_sign" "_law_sign" s__law_sign f fd) (gm : mg "_law_sign" = some (.ref f)) (T : Bi mg)     : Fn P w K mg base C 1 "_law_sign" 1 F__law_sign := by
  have hb : Binds K fd ["_law_cell"] [] := F.binds fun _ _ _ _ _ _ us hl => match us, hl with | [_], _ => rfl
  refine fn_mk gm F.kp hb ?_
  refine fn_ok (k := 0) (N := ["_law_cell", "_law_some"]) (ps := ["_law_cell"]) (g := g__law_sign) F sc__law_sign fun cdv A outer s H E hr => ?_
  have nd := sc__law_sign.nd
  have hu := hr.units
  have hu1 := hu_of hr
  have tk : L2N.Takes (cxOf (L2N.CX P w) P w K mg base ["_law_cell", "_law_some"] "_law_sign" (defScope s__law_sign) f cdv A outer s H E) (WF E) := L2N.takes_of rfl rfl rfl rfl
  exact (b_cons (s_set 1 nd (d_str).dat)
  (b_cons (s_set 1 nd (s_add (d_var 1) d_str))
  (b_one (s_ret ((d_ixV 1 (d_mod (d_var 0) d_int))).dat))))

/-! ### _law_leaf -/
abbrev s__law_leaf : Stmt := topS 25
theorem sc__law_leaf : FnScope ["_law_cell", "_law_head", "_law_sign_here"] ["_law_cell", "_law_head"] (defScope s__law_leaf) := ⟨rfl, rfl, rfl, by decide +kernel, rfl, by decide +kernel, by decide +kernel⟩
noncomputable def g__law_leaf : En → Out Fl :=
  (gSeq (gSet 2 (sCall F__law_sign (dCons (op2 fIx (frz (dLst (dCons (dVar 1) (dCons (dVar 1) (dCons (dVar 1) (dCons (op2 fDiv (dVar 1) (dC (.int 95))) (dCons (op2 fDiv (dVar 0) (dC (.int 6))) (dCons (op2 fDiv (dVar 1) (dC (.int 95))) dNil)))))))) (op2 fMod (dVar 0) (dC (.int 6)))) dNil)))
  (gSeq (gIf (tAndD (op2 fEq (op2 fMod (dVar 0) (dC (.int 6))) (dC (.int 5))) (op2 fEq (op2 fMod (op2 fDiv (dVar 0) (dC (.int 6))) (dC (.int 3))) (dC (.int 0))))
  (gRet (GM.dat (dTup (dCons (dTup (dCons (dC (.str "none")) dNil)) (dCons (dC (.bool true)) (dCons (dC (.str "")) (dCons (frz (dLst dNil)) dNil)))))))
  gNx)
  (gSeq (gIf (op2 fEq (op2 fMod (dVar 0) (dC (.int 6))) (dC (.int 5)))
  (gRet (GM.dat (dTup (dCons (dTup (dCons (dC (.str "any")) dNil)) (dCons (dC (.bool false)) (dCons (dVar 2) (dCons (frz (dLst dNil)) dNil)))))))
  gNx)
  (gRet (GM.dat (dTup (dCons (dTup (dCons (dC (.str "sign")) (dCons (dVar 2) dNil))) (dCons (dC (.bool false)) (dCons (dVar 2) (dCons (frz (dLst dNil)) dNil))))))))))
noncomputable def F__law_leaf : List PyData → Res := runF ["_law_cell", "_law_head", "_law_sign_here"].length ["_law_cell", "_law_head"].length g__law_leaf
theorem ok__law_leaf {f : Addr} {fd : FuncData} (F : L2.Fun K "_law_leaf" "_law_leaf" s__law_leaf f fd) (gm : mg "_law_leaf" = some (.ref f)) (T : Bi mg) (c__law_sign : Fn P w K mg base C 1 "_law_sign" 1 F__law_sign)    : Fn P w K mg base C 2 "_law_leaf" 2 F__law_leaf := by
  have hb : Binds K fd ["_law_cell", "_law_head"] [] := F.binds fun _ _ _ _ _ _ us hl => match us, hl with | [_, _], _ => rfl
  refine fn_mk gm F.kp hb ?_
  refine fn_ok (k := 1) (N := ["_law_cell", "_law_head", "_law_sign_here"]) (ps := ["_law_cell", "_law_head"]) (g := g__law_leaf) F sc__law_leaf fun cdv A outer s H E hr => ?_
  have nd := sc__law_leaf.nd
  have hu := hr.units
  have hu1 := hu_of hr
  have tk : L2N.Takes (cxOf (L2N.CX P w) P w K mg base ["_law_cell", "_law_head", "_law_sign_here"] "_law_leaf" (defScope s__law_leaf) f cdv A outer s H E) (WF E) := L2N.takes_of rfl rfl rfl rfl
  exact (b_cons (s_set 2 nd (s_call c__law_sign hr tk (a_cons (d_ix ((s_lst (a_cons (d_var 1) (a_cons (d_var 1) (a_cons (d_var 1) (a_cons (d_fdiv (d_var 1) d_int) (a_cons (d_fdiv (d_var 0) d_int) (a_cons (d_fdiv (d_var 1) d_int) a_nil)))))) (len_cons (len_cons (len_cons (len_cons (len_cons (len_cons len_nil)))))))).frz (d_mod (d_var 0) d_int)) a_nil) (len_cons len_nil)))
  (b_cons (s_if ((w_and (t_eq hu (d_mod (d_var 0) d_int) d_int) (w_and1 (t_eq hu (d_mod (d_fdiv (d_var 0) d_int) d_int) d_int)))).t
  (b_one (s_ret ((d_tup (a_cons (d_tup (a_cons d_str a_nil) (len_cons len_nil)) (a_cons d_bl (a_cons d_str (a_cons ((s_lst a_nil len_nil)).frz a_nil)))) (len_cons (len_cons (len_cons (len_cons len_nil)))))).dat))
  b_nil)
  (b_cons (s_if (t_eq hu (d_mod (d_var 0) d_int) d_int)
  (b_one (s_ret ((d_tup (a_cons (d_tup (a_cons d_str a_nil) (len_cons len_nil)) (a_cons d_bl (a_cons (d_var 2) (a_cons ((s_lst a_nil len_nil)).frz a_nil)))) (len_cons (len_cons (len_cons (len_cons len_nil)))))).dat))
  b_nil)
  (b_one (s_ret ((d_tup (a_cons (d_tup (a_cons d_str (a_cons (d_var 2) a_nil)) (len_cons (len_cons len_nil))) (a_cons d_bl (a_cons (d_var 2) (a_cons ((s_lst a_nil len_nil)).frz a_nil)))) (len_cons (len_cons (len_cons (len_cons len_nil)))))).dat)))))

/-! ### _law_two -/
abbrev s__law_two : Stmt := topS 26
theorem sc__law_two : FnScope ["_law_cell", "_law_left", "_law_right", "_law_side"] ["_law_cell", "_law_left", "_law_right"] (defScope s__law_two) := ⟨rfl, rfl, rfl, by decide +kernel, rfl, by decide +kernel, by decide +kernel⟩
noncomputable def g__law_two : En → Out Fl :=
  (gSeq (gIf (op2 fEq (op2 fMod (dVar 0) (dC (.int 2))) (dC (.int 0)))
  (gRet (GM.dat (dTup (dCons (dTup (dCons (dC (.str "row")) (dCons (dIxV 1 (dC (.int 0))) (dCons (dIxV 2 (dC (.int 0))) dNil)))) (dCons (dAnd (dIxV 1 (dC (.int 1))) (dIxV 2 (dC (.int 1)))) (dCons (frz (op2 fAdd (dIxV 1 (dC (.int 2))) (dIxV 2 (dC (.int 2))))) (dCons (frz (op2 fAdd (dIxV 1 (dC (.int 3))) (dIxV 2 (dC (.int 3))))) dNil)))))))
  gNx)
  (gSeq (gSet 3 (GM.dat (op2 fIx (frz (dLst (dCons (dVar 1) (dCons (dVar 2) dNil)))) (op2 fMod (op2 fDiv (dVar 0) (dC (.int 2))) (dC (.int 2))))))
  (gRet (GM.dat (dTup (dCons (dTup (dCons (dC (.str "or")) (dCons (dIxV 1 (dC (.int 0))) (dCons (dIxV 2 (dC (.int 0))) dNil)))) (dCons (dOr (dIxV 1 (dC (.int 1))) (dIxV 2 (dC (.int 1)))) (dCons (dIxV 3 (dC (.int 2))) (dCons (frz (op2 fAdd (frz (dLst (dCons (op2 fMod (op2 fDiv (dVar 0) (dC (.int 2))) (dC (.int 2))) dNil))) (dIxV 3 (dC (.int 3))))) dNil)))))))))
noncomputable def F__law_two : List PyData → Res := runF ["_law_cell", "_law_left", "_law_right", "_law_side"].length ["_law_cell", "_law_left", "_law_right"].length g__law_two
theorem ok__law_two {f : Addr} {fd : FuncData} (F : L2.Fun K "_law_two" "_law_two" s__law_two f fd) (gm : mg "_law_two" = some (.ref f)) (T : Bi mg)     : Fn P w K mg base C 1 "_law_two" 3 F__law_two := by
  have hb : Binds K fd ["_law_cell", "_law_left", "_law_right"] [] := F.binds fun _ _ _ _ _ _ us hl => match us, hl with | [_, _, _], _ => rfl
  refine fn_mk gm F.kp hb ?_
  refine fn_ok (k := 0) (N := ["_law_cell", "_law_left", "_law_right", "_law_side"]) (ps := ["_law_cell", "_law_left", "_law_right"]) (g := g__law_two) F sc__law_two fun cdv A outer s H E hr => ?_
  have nd := sc__law_two.nd
  have hu := hr.units
  have hu1 := hu_of hr
  have tk : L2N.Takes (cxOf (L2N.CX P w) P w K mg base ["_law_cell", "_law_left", "_law_right", "_law_side"] "_law_two" (defScope s__law_two) f cdv A outer s H E) (WF E) := L2N.takes_of rfl rfl rfl rfl
  exact (b_cons (s_if (t_eq hu (d_mod (d_var 0) d_int) d_int)
  (b_one (s_ret ((d_tup (a_cons (d_tup (a_cons d_str (a_cons (d_ixV 1 d_int) (a_cons (d_ixV 2 d_int) a_nil))) (len_cons (len_cons (len_cons len_nil)))) (a_cons (d_and (d_ixV 1 d_int) (d_one (d_ixV 2 d_int))) (a_cons ((s_add (d_ixV 1 d_int) (d_ixV 2 d_int))).frz (a_cons ((s_add (d_ixV 1 d_int) (d_ixV 2 d_int))).frz a_nil)))) (len_cons (len_cons (len_cons (len_cons len_nil)))))).dat))
  b_nil)
  (b_cons (s_set 3 nd ((d_ix ((s_lst (a_cons (d_var 1) (a_cons (d_var 2) a_nil)) (len_cons (len_cons len_nil)))).frz (d_mod (d_fdiv (d_var 0) d_int) d_int))).dat)
  (b_one (s_ret ((d_tup (a_cons (d_tup (a_cons d_str (a_cons (d_ixV 1 d_int) (a_cons (d_ixV 2 d_int) a_nil))) (len_cons (len_cons (len_cons len_nil)))) (a_cons (d_or (d_ixV 1 d_int) (d_one (d_ixV 2 d_int))) (a_cons (d_ixV 3 d_int) (a_cons ((s_add ((s_lst (a_cons (d_mod (d_fdiv (d_var 0) d_int) d_int) a_nil) (len_cons len_nil))).frz (d_ixV 3 d_int))).frz a_nil)))) (len_cons (len_cons (len_cons (len_cons len_nil)))))).dat))))

/-! ### _law_round -/
abbrev s__law_round : Stmt := topS 27
theorem sc__law_round : FnScope ["_law_cell", "_law_part", "_law_head", "_law_sign_here", "_law_many", "_law_way", "_law_turn"] ["_law_cell", "_law_part", "_law_head"] (defScope s__law_round) := ⟨rfl, rfl, rfl, by decide +kernel, rfl, by decide +kernel, by decide +kernel⟩
noncomputable def b__law_round_0 : En → Out Fl :=
  (gSet 5 (op2 fAdd (frz (op2 fAdd (dVar 5) (frz (dLst (dCons (op2 fMod (dVar 0) (dC (.int 2))) dNil))))) (dIxV 1 (dC (.int 3)))))
noncomputable def g__law_round : En → Out Fl :=
  (gSeq (gIf (tVal (dIxV 1 (dC (.int 1))))
  (gSeq (gSet 3 (sCall F__law_sign (dCons (dVar 2) dNil)))
  (gSet 1 (GM.dat (dTup (dCons (dTup (dCons (dC (.str "row")) (dCons (dTup (dCons (dC (.str "sign")) (dCons (dVar 3) dNil))) (dCons (dIxV 1 (dC (.int 0))) dNil)))) (dCons (dC (.bool false)) (dCons (frz (op2 fAdd (dVar 3) (dIxV 1 (dC (.int 2))))) (dCons (dIxV 1 (dC (.int 3))) dNil))))))))
  gNx)
  (gSeq (gSet 4 (GM.dat (op2 fMod (op2 fDiv (dVar 0) (dC (.int 2))) (dC (.int 4)))))
  (gSeq (gIf (op2 fGt (op2 fMul (dVar 4) (op1 fLen (dIxV 1 (dC (.int 2))))) (dC (.int 12)))
  (gSet 4 (GM.dat (dC (.int 1))))
  gNx)
  (gSeq (gSet 5 (dLst dNil))
  (gSeq (gFor (iRngD (dVar 4)) (gtN 6) b__law_round_0)
  (gRet (GM.dat (dTup (dCons (dTup (dCons (op2 fIx (frz (dLst (dCons (dC (.str "more")) (dCons (dC (.str "less")) dNil)))) (op2 fMod (dVar 0) (dC (.int 2)))) (dCons (dIxV 1 (dC (.int 0))) dNil))) (dCons (dC (.bool true)) (dCons (op2 fMul (dIxV 1 (dC (.int 2))) (dVar 4)) (dCons (frz (op2 fAdd (dVar 5) (frz (dLst (dCons (op2 fSub (dC (.int 1)) (op2 fMod (dVar 0) (dC (.int 2)))) dNil))))) dNil))))))))))))
noncomputable def F__law_round : List PyData → Res := runF ["_law_cell", "_law_part", "_law_head", "_law_sign_here", "_law_many", "_law_way", "_law_turn"].length ["_law_cell", "_law_part", "_law_head"].length g__law_round
theorem ok__law_round {f : Addr} {fd : FuncData} (F : L2.Fun K "_law_round" "_law_round" s__law_round f fd) (gm : mg "_law_round" = some (.ref f)) (T : Bi mg) (c__law_sign : Fn P w K mg base C 1 "_law_sign" 1 F__law_sign)    : Fn P w K mg base C 2 "_law_round" 3 F__law_round := by
  have hb : Binds K fd ["_law_cell", "_law_part", "_law_head"] [] := F.binds fun _ _ _ _ _ _ us hl => match us, hl with | [_, _, _], _ => rfl
  refine fn_mk gm F.kp hb ?_
  refine fn_ok (k := 1) (N := ["_law_cell", "_law_part", "_law_head", "_law_sign_here", "_law_many", "_law_way", "_law_turn"]) (ps := ["_law_cell", "_law_part", "_law_head"]) (g := g__law_round) F sc__law_round fun cdv A outer s H E hr => ?_
  have nd := sc__law_round.nd
  have hu := hr.units
  have hu1 := hu_of hr
  have tk : L2N.Takes (cxOf (L2N.CX P w) P w K mg base ["_law_cell", "_law_part", "_law_head", "_law_sign_here", "_law_many", "_law_way", "_law_turn"] "_law_round" (defScope s__law_round) f cdv A outer s H E) (WF E) := L2N.takes_of rfl rfl rfl rfl
  have hp : PassesOwn (model P w) (cxOf (L2N.CX P w) P w K mg base ["_law_cell", "_law_part", "_law_head", "_law_sign_here", "_law_many", "_law_way", "_law_turn"] "_law_round" (defScope s__law_round) f cdv A outer s H E).A (cxOf (L2N.CX P w) P w K mg base ["_law_cell", "_law_part", "_law_head", "_law_sign_here", "_law_many", "_law_way", "_law_turn"] "_law_round" (defScope s__law_round) f cdv A outer s H E).env (cxOf (L2N.CX P w) P w K mg base ["_law_cell", "_law_part", "_law_head", "_law_sign_here", "_law_many", "_law_way", "_law_turn"] "_law_round" (defScope s__law_round) f cdv A outer s H E).xe := passes_of (X := cxOf (L2N.CX P w) P w K mg base ["_law_cell", "_law_part", "_law_head", "_law_sign_here", "_law_many", "_law_way", "_law_turn"] "_law_round" (defScope s__law_round) f cdv A outer s H E) rfl
  exact (b_cons (s_if (t_valD (d_ixV 1 d_int))
  (b_cons (s_set 3 nd (s_call c__law_sign hr tk (a_cons (d_var 2) a_nil) (len_cons len_nil)))
  (b_one (s_set 1 nd ((d_tup (a_cons (d_tup (a_cons d_str (a_cons (d_tup (a_cons d_str (a_cons (d_var 3) a_nil)) (len_cons (len_cons len_nil))) (a_cons (d_ixV 1 d_int) a_nil))) (len_cons (len_cons (len_cons len_nil)))) (a_cons d_bl (a_cons ((s_add (d_var 3) (d_ixV 1 d_int))).frz (a_cons (d_ixV 1 d_int) a_nil)))) (len_cons (len_cons (len_cons (len_cons len_nil)))))).dat)))
  b_nil)
  (b_cons (s_set 4 nd ((d_mod (d_fdiv (d_var 0) d_int) d_int)).dat)
  (b_cons (s_if (t_gt (d_mul (d_var 4) (d_len T.len (d_ixV 1 d_int))) d_int)
  (b_one (s_set 4 nd (d_int).dat))
  b_nil)
  (b_cons (s_set 5 nd (s_lst a_nil len_nil))
  (b_cons (s_for hp rfl (i_range T.range (d_var 4)) (g_name 6 nd)
  (b_one (s_set 5 nd (s_add ((s_add (d_var 5) ((s_lst (a_cons (d_mod (d_var 0) d_int) a_nil) (len_cons len_nil))).frz)).frz (d_ixV 1 d_int)))))
  (b_one (s_ret ((d_tup (a_cons (d_tup (a_cons (d_ix ((s_lst (a_cons d_str (a_cons d_str a_nil)) (len_cons (len_cons len_nil)))).frz (d_mod (d_var 0) d_int)) (a_cons (d_ixV 1 d_int) a_nil)) (len_cons (len_cons len_nil))) (a_cons d_bl (a_cons (d_mul (d_ixV 1 d_int) (d_var 4)) (a_cons ((s_add (d_var 5) ((s_lst (a_cons (d_sub d_int (d_mod (d_var 0) d_int)) a_nil) (len_cons len_nil))).frz)).frz a_nil)))) (len_cons (len_cons (len_cons (len_cons len_nil)))))).dat)))))))

/-! ### _law_made -/
abbrev s__law_made : Stmt := topS 28
theorem sc__law_made : FnScope ["_law_cells", "_law_head", "_law_pile", "_law_number", "_law_cell", "_law_kind", "_law_right", "_law_part"] ["_law_cells", "_law_head"] (defScope s__law_made) := ⟨rfl, rfl, rfl, by decide +kernel, rfl, by decide +kernel, by decide +kernel⟩
noncomputable def b__law_made_0 : En → Out Fl :=
  (gSeq (gSet 5 (GM.dat (op2 fMod (dVar 4) (dC (.int 10)))))
  (gIf (tOrD (op2 fLt (dVar 5) (dC (.int 4))) (tOrD (op2 fEq (dLenV 2) (dC (.int 0))) (tAndD (op2 fLt (dVar 5) (dC (.int 7))) (op2 fLt (dLenV 2) (dC (.int 2))))))
  (gApp 2 (frz (sCall F__law_leaf (dCons (op2 fDiv (dVar 4) (dC (.int 10))) (dCons (dVar 1) dNil)))))
  (gIf (op2 fLt (dVar 5) (dC (.int 7)))
  (gSeq (gSet 6 (GM.dat (dPop 2)))
  (gApp 2 (frz (sCall F__law_two (dCons (op2 fDiv (dVar 4) (dC (.int 10))) (dCons (dPop 2) (dCons (dVar 6) dNil)))))))
  (gIf (op2 fLt (dVar 5) (dC (.int 9)))
  (gApp 2 (frz (sCall F__law_round (dCons (op2 fDiv (dVar 4) (dC (.int 10))) (dCons (dPop 2) (dCons (dVar 1) dNil))))))
  (gSeq (gSet 3 (op2 fAdd (frz (op2 fAdd (dVar 3) (dC (.int 1)))) (op2 fMod (dVar 1) (dC (.int 900)))))
  (gSeq (gSet 7 (GM.dat (dPop 2)))
  (gApp 2 (dTup (dCons (dTup (dCons (dC (.str "group")) (dCons (dVar 3) (dCons (dIxV 7 (dC (.int 0))) dNil)))) (dCons (dIxV 7 (dC (.int 1))) (dCons (dIxV 7 (dC (.int 2))) (dCons (dIxV 7 (dC (.int 3))) dNil))))))))))))
noncomputable def b__law_made_1 : En → Out Fl :=
  (gSeq (gSet 6 (GM.dat (dPop 2)))
  (gApp 2 (frz (sCall F__law_two (dCons (dC (.int 0)) (dCons (dPop 2) (dCons (dVar 6) dNil)))))))
noncomputable def g__law_made : En → Out Fl :=
  (gSeq (gSet 2 (dLst dNil))
  (gSeq (gSet 3 (GM.dat (dC (.int 0))))
  (gSeq (gFor (iLst (dVar 0)) (gtN 4) b__law_made_0)
  (gSeq (gWhile (op2 fGt (dLenV 2) (dC (.int 1))) b__law_made_1)
  (gSeq (gIf (op2 fEq (dLenV 2) (dC (.int 0)))
  (gRet (GM.dat (dTup (dCons (dTup (dCons (dC (.str "none")) dNil)) (dCons (dC (.bool true)) (dCons (dC (.str "")) (dCons (frz (dLst dNil)) dNil)))))))
  gNx)
  (gRet (GM.dat (dIxV 2 (dC (.int 0))))))))))
noncomputable def F__law_made : List PyData → Res := runF ["_law_cells", "_law_head", "_law_pile", "_law_number", "_law_cell", "_law_kind", "_law_right", "_law_part"].length ["_law_cells", "_law_head"].length g__law_made
theorem ok__law_made {f : Addr} {fd : FuncData} (F : L2.Fun K "_law_made" "_law_made" s__law_made f fd) (gm : mg "_law_made" = some (.ref f)) (T : Bi mg) (c__law_leaf : Fn P w K mg base C 2 "_law_leaf" 2 F__law_leaf) (c__law_round : Fn P w K mg base C 2 "_law_round" 3 F__law_round) (c__law_two : Fn P w K mg base C 1 "_law_two" 3 F__law_two)    : Fn P w K mg base C 3 "_law_made" 2 F__law_made := by
  have hb : Binds K fd ["_law_cells", "_law_head"] [] := F.binds fun _ _ _ _ _ _ us hl => match us, hl with | [_, _], _ => rfl
  refine fn_mk gm F.kp hb ?_
  refine fn_ok (k := 2) (N := ["_law_cells", "_law_head", "_law_pile", "_law_number", "_law_cell", "_law_kind", "_law_right", "_law_part"]) (ps := ["_law_cells", "_law_head"]) (g := g__law_made) F sc__law_made fun cdv A outer s H E hr => ?_
  have nd := sc__law_made.nd
  have hu := hr.units
  have hu1 := hu_of hr
  have tk : L2N.Takes (cxOf (L2N.CX P w) P w K mg base ["_law_cells", "_law_head", "_law_pile", "_law_number", "_law_cell", "_law_kind", "_law_right", "_law_part"] "_law_made" (defScope s__law_made) f cdv A outer s H E) (WF E) := L2N.takes_of rfl rfl rfl rfl
  have hp : PassesOwn (model P w) (cxOf (L2N.CX P w) P w K mg base ["_law_cells", "_law_head", "_law_pile", "_law_number", "_law_cell", "_law_kind", "_law_right", "_law_part"] "_law_made" (defScope s__law_made) f cdv A outer s H E).A (cxOf (L2N.CX P w) P w K mg base ["_law_cells", "_law_head", "_law_pile", "_law_number", "_law_cell", "_law_kind", "_law_right", "_law_part"] "_law_made" (defScope s__law_made) f cdv A outer s H E).env (cxOf (L2N.CX P w) P w K mg base ["_law_cells", "_law_head", "_law_pile", "_law_number", "_law_cell", "_law_kind", "_law_right", "_law_part"] "_law_made" (defScope s__law_made) f cdv A outer s H E).xe := passes_of (X := cxOf (L2N.CX P w) P w K mg base ["_law_cells", "_law_head", "_law_pile", "_law_number", "_law_cell", "_law_kind", "_law_right", "_law_part"] "_law_made" (defScope s__law_made) f cdv A outer s H E) rfl
  exact (b_cons (s_set 2 nd (s_lst a_nil len_nil))
  (b_cons (s_set 3 nd (d_int).dat)
  (b_cons (s_for hp rfl (i_list (d_var 0)) (g_name 4 nd)
  (b_cons (s_set 5 nd ((d_mod (d_var 4) d_int)).dat)
  (b_one (s_if ((w_or (t_lt (d_var 5) d_int) (w_or (t_eq hu (d_lenV 2 T.len) d_int) (w_or1 ((w_and (t_lt (d_var 5) d_int) (w_and1 (t_lt (d_lenV 2 T.len) d_int)))).t)))).t
  (b_one (s_app 2 ((s_call c__law_leaf hr tk (a_cons (d_fdiv (d_var 4) d_int) (a_cons (d_var 1) a_nil)) (len_cons (len_cons len_nil)))).frz))
  (b_one (s_if (t_lt (d_var 5) d_int)
  (b_cons (s_set 6 nd ((d_pop 2)).dat)
  (b_one (s_app 2 ((s_call c__law_two hr tk (a_cons (d_fdiv (d_var 4) d_int) (a_cons (d_pop 2) (a_cons (d_var 6) a_nil))) (len_cons (len_cons (len_cons len_nil))))).frz)))
  (b_one (s_if (t_lt (d_var 5) d_int)
  (b_one (s_app 2 ((s_call c__law_round hr tk (a_cons (d_fdiv (d_var 4) d_int) (a_cons (d_pop 2) (a_cons (d_var 1) a_nil))) (len_cons (len_cons (len_cons len_nil))))).frz))
  (b_cons (s_set 3 nd (s_add ((s_add (d_var 3) d_int)).frz (d_mod (d_var 1) d_int)))
  (b_cons (s_set 7 nd ((d_pop 2)).dat)
  (b_one (s_app 2 (d_tup (a_cons (d_tup (a_cons d_str (a_cons (d_var 3) (a_cons (d_ixV 7 d_int) a_nil))) (len_cons (len_cons (len_cons len_nil)))) (a_cons (d_ixV 7 d_int) (a_cons (d_ixV 7 d_int) (a_cons (d_ixV 7 d_int) a_nil)))) (len_cons (len_cons (len_cons (len_cons len_nil)))))))))))))))))
  (b_cons (s_while hp (t_gt (d_lenV 2 T.len) d_int)
  (b_cons (s_set 6 nd ((d_pop 2)).dat)
  (b_one (s_app 2 ((s_call c__law_two hr tk (a_cons d_int (a_cons (d_pop 2) (a_cons (d_var 6) a_nil))) (len_cons (len_cons (len_cons len_nil))))).frz))))
  (b_cons (s_if (t_eq hu (d_lenV 2 T.len) d_int)
  (b_one (s_ret ((d_tup (a_cons (d_tup (a_cons d_str a_nil) (len_cons len_nil)) (a_cons d_bl (a_cons d_str (a_cons ((s_lst a_nil len_nil)).frz a_nil)))) (len_cons (len_cons (len_cons (len_cons len_nil)))))).dat))
  b_nil)
  (b_one (s_ret ((d_ixV 2 d_int)).dat)))))))

/-! ### _law_onward -/
abbrev s__law_onward : Stmt := topS 29
theorem sc__law_onward : FnScope ["_law_state", "_law_text", "_law_rest", "_law_place", "_law_thing", "_law_behind"] ["_law_state", "_law_text"] (defScope s__law_onward) := ⟨rfl, rfl, rfl, by decide +kernel, rfl, by decide +kernel, by decide +kernel⟩
noncomputable def g__law_onward : En → Out Fl :=
  (gSeq (gSet 2 (GM.dat (dIxV 0 (dC (.int 0)))))
  (gSeq (gSet 3 (GM.dat (dIxV 0 (dC (.int 1)))))
  (gSeq (gIf (op2 fEq (dLenV 2) (dC (.int 0)))
  (gRet (dLst dNil))
  gNx)
  (gSeq (gSet 4 (GM.dat (dIxV 2 (dC (.int 0)))))
  (gSeq (gSet 5 (dSl (dVar 2) (oSome (dC (.int 1))) oNone))
  (gSeq (gIf (tOrD (op2 fEq (dIxV 4 (dC (.int 0))) (dC (.str "sign"))) (op2 fEq (dIxV 4 (dC (.int 0))) (dC (.str "any"))))
  (gSeq (gIf (tOrD (op2 fEq (dVar 3) (dLenV 1)) (tAndD (op2 fEq (dIxV 4 (dC (.int 0))) (dC (.str "sign"))) (op2 fNe (dIxV 4 (dC (.int 1))) (dIxV 1 (dVar 3)))))
  (gRet (dLst dNil))
  gNx)
  (gRet (dLst (dCons (dTup (dCons (dVar 5) (dCons (frz (op2 fAdd (dVar 3) (dC (.int 1)))) dNil))) dNil))))
  gNx)
  (gSeq (gIf (op2 fEq (dIxV 4 (dC (.int 0))) (dC (.str "row")))
  (gRet (dLst (dCons (dTup (dCons (frz (op2 fAdd (dTup (dCons (dIxV 4 (dC (.int 1))) (dCons (dIxV 4 (dC (.int 2))) dNil))) (dVar 5))) (dCons (dVar 3) dNil))) dNil)))
  gNx)
  (gSeq (gIf (op2 fEq (dIxV 4 (dC (.int 0))) (dC (.str "or")))
  (gRet (dLst (dCons (dTup (dCons (frz (op2 fAdd (dTup (dCons (dIxV 4 (dC (.int 1))) dNil)) (dVar 5))) (dCons (dVar 3) dNil))) (dCons (dTup (dCons (frz (op2 fAdd (dTup (dCons (dIxV 4 (dC (.int 2))) dNil)) (dVar 5))) (dCons (dVar 3) dNil))) dNil))))
  gNx)
  (gSeq (gIf (op2 fEq (dIxV 4 (dC (.int 0))) (dC (.str "more")))
  (gRet (dLst (dCons (dTup (dCons (frz (op2 fAdd (dTup (dCons (dIxV 4 (dC (.int 1))) (dCons (dVar 4) dNil))) (dVar 5))) (dCons (dVar 3) dNil))) (dCons (dTup (dCons (dVar 5) (dCons (dVar 3) dNil))) dNil))))
  gNx)
  (gSeq (gIf (op2 fEq (dIxV 4 (dC (.int 0))) (dC (.str "less")))
  (gRet (dLst (dCons (dTup (dCons (dVar 5) (dCons (dVar 3) dNil))) (dCons (dTup (dCons (frz (op2 fAdd (dTup (dCons (dIxV 4 (dC (.int 1))) (dCons (dVar 4) dNil))) (dVar 5))) (dCons (dVar 3) dNil))) dNil))))
  gNx)
  (gSeq (gIf (op2 fEq (dIxV 4 (dC (.int 0))) (dC (.str "group")))
  (gRet (dLst (dCons (dTup (dCons (frz (op2 fAdd (dTup (dCons (dIxV 4 (dC (.int 2))) (dCons (dTup (dCons (dC (.str "close")) (dCons (dIxV 4 (dC (.int 1))) dNil))) dNil))) (dVar 5))) (dCons (dVar 3) dNil))) dNil)))
  gNx)
  (gRet (dLst (dCons (dTup (dCons (dVar 5) (dCons (dVar 3) dNil))) dNil))))))))))))))
noncomputable def F__law_onward : List PyData → Res := runF ["_law_state", "_law_text", "_law_rest", "_law_place", "_law_thing", "_law_behind"].length ["_law_state", "_law_text"].length g__law_onward
theorem ok__law_onward {f : Addr} {fd : FuncData} (F : L2.Fun K "_law_onward" "_law_onward" s__law_onward f fd) (gm : mg "_law_onward" = some (.ref f)) (T : Bi mg)     : Fn P w K mg base C 1 "_law_onward" 2 F__law_onward := by
  have hb : Binds K fd ["_law_state", "_law_text"] [] := F.binds fun _ _ _ _ _ _ us hl => match us, hl with | [_, _], _ => rfl
  refine fn_mk gm F.kp hb ?_
  refine fn_ok (k := 0) (N := ["_law_state", "_law_text", "_law_rest", "_law_place", "_law_thing", "_law_behind"]) (ps := ["_law_state", "_law_text"]) (g := g__law_onward) F sc__law_onward fun cdv A outer s H E hr => ?_
  have nd := sc__law_onward.nd
  have hu := hr.units
  have hu1 := hu_of hr
  have tk : L2N.Takes (cxOf (L2N.CX P w) P w K mg base ["_law_state", "_law_text", "_law_rest", "_law_place", "_law_thing", "_law_behind"] "_law_onward" (defScope s__law_onward) f cdv A outer s H E) (WF E) := L2N.takes_of rfl rfl rfl rfl
  exact (b_cons (s_set 2 nd ((d_ixV 0 d_int)).dat)
  (b_cons (s_set 3 nd ((d_ixV 0 d_int)).dat)
  (b_cons (s_if (t_eq hu (d_lenV 2 T.len) d_int)
  (b_one (s_ret (s_lst a_nil len_nil)))
  b_nil)
  (b_cons (s_set 4 nd ((d_ixV 2 d_int)).dat)
  (b_cons (s_set 5 nd (s_slice (d_var 2) (o_some d_int) o_none))
  (b_cons (s_if ((w_or (t_eq hu (d_ixV 4 d_int) d_str) (w_or1 (t_eq hu (d_ixV 4 d_int) d_str)))).t
  (b_cons (s_if ((w_or (t_eq hu (d_var 3) (d_lenV 1 T.len)) (w_or1 ((w_and (t_eq hu (d_ixV 4 d_int) d_str) (w_and1 (t_ne hu (d_ixV 4 d_int) (d_ixV 1 (d_var 3)))))).t))).t
  (b_one (s_ret (s_lst a_nil len_nil)))
  b_nil)
  (b_one (s_ret (s_lst (a_cons (d_tup (a_cons (d_var 5) (a_cons ((s_add (d_var 3) d_int)).frz a_nil)) (len_cons (len_cons len_nil))) a_nil) (len_cons len_nil)))))
  b_nil)
  (b_cons (s_if (t_eq hu (d_ixV 4 d_int) d_str)
  (b_one (s_ret (s_lst (a_cons (d_tup (a_cons ((s_add (d_tup (a_cons (d_ixV 4 d_int) (a_cons (d_ixV 4 d_int) a_nil)) (len_cons (len_cons len_nil))) (d_var 5))).frz (a_cons (d_var 3) a_nil)) (len_cons (len_cons len_nil))) a_nil) (len_cons len_nil))))
  b_nil)
  (b_cons (s_if (t_eq hu (d_ixV 4 d_int) d_str)
  (b_one (s_ret (s_lst (a_cons (d_tup (a_cons ((s_add (d_tup (a_cons (d_ixV 4 d_int) a_nil) (len_cons len_nil)) (d_var 5))).frz (a_cons (d_var 3) a_nil)) (len_cons (len_cons len_nil))) (a_cons (d_tup (a_cons ((s_add (d_tup (a_cons (d_ixV 4 d_int) a_nil) (len_cons len_nil)) (d_var 5))).frz (a_cons (d_var 3) a_nil)) (len_cons (len_cons len_nil))) a_nil)) (len_cons (len_cons len_nil)))))
  b_nil)
  (b_cons (s_if (t_eq hu (d_ixV 4 d_int) d_str)
  (b_one (s_ret (s_lst (a_cons (d_tup (a_cons ((s_add (d_tup (a_cons (d_ixV 4 d_int) (a_cons (d_var 4) a_nil)) (len_cons (len_cons len_nil))) (d_var 5))).frz (a_cons (d_var 3) a_nil)) (len_cons (len_cons len_nil))) (a_cons (d_tup (a_cons (d_var 5) (a_cons (d_var 3) a_nil)) (len_cons (len_cons len_nil))) a_nil)) (len_cons (len_cons len_nil)))))
  b_nil)
  (b_cons (s_if (t_eq hu (d_ixV 4 d_int) d_str)
  (b_one (s_ret (s_lst (a_cons (d_tup (a_cons (d_var 5) (a_cons (d_var 3) a_nil)) (len_cons (len_cons len_nil))) (a_cons (d_tup (a_cons ((s_add (d_tup (a_cons (d_ixV 4 d_int) (a_cons (d_var 4) a_nil)) (len_cons (len_cons len_nil))) (d_var 5))).frz (a_cons (d_var 3) a_nil)) (len_cons (len_cons len_nil))) a_nil)) (len_cons (len_cons len_nil)))))
  b_nil)
  (b_cons (s_if (t_eq hu (d_ixV 4 d_int) d_str)
  (b_one (s_ret (s_lst (a_cons (d_tup (a_cons ((s_add (d_tup (a_cons (d_ixV 4 d_int) (a_cons (d_tup (a_cons d_str (a_cons (d_ixV 4 d_int) a_nil)) (len_cons (len_cons len_nil))) a_nil)) (len_cons (len_cons len_nil))) (d_var 5))).frz (a_cons (d_var 3) a_nil)) (len_cons (len_cons len_nil))) a_nil) (len_cons len_nil))))
  b_nil)
  (b_one (s_ret (s_lst (a_cons (d_tup (a_cons (d_var 5) (a_cons (d_var 3) a_nil)) (len_cons (len_cons len_nil))) a_nil) (len_cons len_nil)))))))))))))))

/-! ### _law_walked -/
abbrev s__law_walked : Stmt := topS 30
theorem sc__law_walked : FnScope ["_law_pattern", "_law_text", "_law_way", "_law_state", "_law_found", "_law_used", "_law_goes", "_law_turn"] ["_law_pattern", "_law_text", "_law_way"] (defScope s__law_walked) := ⟨rfl, rfl, rfl, by decide +kernel, rfl, by decide +kernel, by decide +kernel⟩
noncomputable def b__law_walked_0 : En → Out Fl :=
  (gSeq (gSet 7 (GM.dat (dC (.int 0))))
  (gSeq (gIf (op2 fEq (dLenV 6) (dC (.int 2)))
  (gSeq (gIf (tOrD (op2 fEq (dVar 5) (dLenV 2)) (tOrD (tVal (op1 (fIsi "bool") (dIxV 2 (dVar 5)))) (tNotD (tVal (op1 (fIsi "int") (dIxV 2 (dVar 5)))))))
  (gRet (GM.dat (dC .none)))
  gNx)
  (gSeq (gSet 7 (GM.dat (dIxV 2 (dVar 5))))
  (gSeq (gIf (tOrD (op2 fLt (dVar 7) (dC (.int 0))) (op2 fGt (dVar 7) (dC (.int 1))))
  (gRet (GM.dat (dC .none)))
  gNx)
  (gSet 5 (op2 fAdd (dVar 5) (dC (.int 1)))))))
  gNx)
  (gSeq (gSet 3 (GM.dat (dIxV 6 (dVar 7))))
  (gSeq (gApp 4 (dVar 3))
  (gSet 6 (sCall F__law_onward (dCons (dVar 3) (dCons (dVar 1) dNil))))))))
noncomputable def g__law_walked : En → Out Fl :=
  (gSeq (gSet 3 (GM.dat (dTup (dCons (dTup (dCons (dVar 0) dNil)) (dCons (dC (.int 0)) dNil)))))
  (gSeq (gSet 4 (dLst (dCons (dVar 3) dNil)))
  (gSeq (gSet 5 (GM.dat (dC (.int 0))))
  (gSeq (gSet 6 (sCall F__law_onward (dCons (dVar 3) (dCons (dVar 1) dNil))))
  (gSeq (gWhile (op2 fGt (dLenV 6) (dC (.int 0))) b__law_walked_0)
  (gSeq (gIf (tOrD (op2 fNe (dVar 3) (dTup (dCons (dTup dNil) (dCons (dLenV 1) dNil)))) (op2 fLt (dVar 5) (dLenV 2)))
  (gRet (GM.dat (dC .none)))
  gNx)
  (gRetV 4)))))))
noncomputable def F__law_walked : List PyData → Res := runF ["_law_pattern", "_law_text", "_law_way", "_law_state", "_law_found", "_law_used", "_law_goes", "_law_turn"].length ["_law_pattern", "_law_text", "_law_way"].length g__law_walked
theorem ok__law_walked {f : Addr} {fd : FuncData} (F : L2.Fun K "_law_walked" "_law_walked" s__law_walked f fd) (gm : mg "_law_walked" = some (.ref f)) (T : Bi mg) (c__law_onward : Fn P w K mg base C 1 "_law_onward" 2 F__law_onward)    : Fn P w K mg base C 2 "_law_walked" 3 F__law_walked := by
  have hb : Binds K fd ["_law_pattern", "_law_text", "_law_way"] [] := F.binds fun _ _ _ _ _ _ us hl => match us, hl with | [_, _, _], _ => rfl
  refine fn_mk gm F.kp hb ?_
  refine fn_ok (k := 1) (N := ["_law_pattern", "_law_text", "_law_way", "_law_state", "_law_found", "_law_used", "_law_goes", "_law_turn"]) (ps := ["_law_pattern", "_law_text", "_law_way"]) (g := g__law_walked) F sc__law_walked fun cdv A outer s H E hr => ?_
  have nd := sc__law_walked.nd
  have hu := hr.units
  have hu1 := hu_of hr
  have tk : L2N.Takes (cxOf (L2N.CX P w) P w K mg base ["_law_pattern", "_law_text", "_law_way", "_law_state", "_law_found", "_law_used", "_law_goes", "_law_turn"] "_law_walked" (defScope s__law_walked) f cdv A outer s H E) (WF E) := L2N.takes_of rfl rfl rfl rfl
  have hp : PassesOwn (model P w) (cxOf (L2N.CX P w) P w K mg base ["_law_pattern", "_law_text", "_law_way", "_law_state", "_law_found", "_law_used", "_law_goes", "_law_turn"] "_law_walked" (defScope s__law_walked) f cdv A outer s H E).A (cxOf (L2N.CX P w) P w K mg base ["_law_pattern", "_law_text", "_law_way", "_law_state", "_law_found", "_law_used", "_law_goes", "_law_turn"] "_law_walked" (defScope s__law_walked) f cdv A outer s H E).env (cxOf (L2N.CX P w) P w K mg base ["_law_pattern", "_law_text", "_law_way", "_law_state", "_law_found", "_law_used", "_law_goes", "_law_turn"] "_law_walked" (defScope s__law_walked) f cdv A outer s H E).xe := passes_of (X := cxOf (L2N.CX P w) P w K mg base ["_law_pattern", "_law_text", "_law_way", "_law_state", "_law_found", "_law_used", "_law_goes", "_law_turn"] "_law_walked" (defScope s__law_walked) f cdv A outer s H E) rfl
  exact (b_cons (s_set 3 nd ((d_tup (a_cons (d_tup (a_cons (d_var 0) a_nil) (len_cons len_nil)) (a_cons d_int a_nil)) (len_cons (len_cons len_nil)))).dat)
  (b_cons (s_set 4 nd (s_lst (a_cons (d_var 3) a_nil) (len_cons len_nil)))
  (b_cons (s_set 5 nd (d_int).dat)
  (b_cons (s_set 6 nd (s_call c__law_onward hr tk (a_cons (d_var 3) (a_cons (d_var 1) a_nil)) (len_cons (len_cons len_nil))))
  (b_cons (s_while hp (t_gt (d_lenV 6 T.len) d_int)
  (b_cons (s_set 7 nd (d_int).dat)
  (b_cons (s_if (t_eq hu (d_lenV 6 T.len) d_int)
  (b_cons (s_if ((w_or (t_eq hu (d_var 5) (d_lenV 2 T.len)) (w_or (t_valD (d_isi isi_bool T.isinstance T.bool boot_bool (d_ixV 2 (d_var 5)))) (w_or1 (t_not (t_valD (d_isi isi_int T.isinstance T.int boot_int (d_ixV 2 (d_var 5))))))))).t
  (b_one (s_ret (d_non).dat))
  b_nil)
  (b_cons (s_set 7 nd ((d_ixV 2 (d_var 5))).dat)
  (b_cons (s_if ((w_or (t_lt (d_var 7) d_int) (w_or1 (t_gt (d_var 7) d_int)))).t
  (b_one (s_ret (d_non).dat))
  b_nil)
  (b_one (s_set 5 nd (s_add (d_var 5) d_int))))))
  b_nil)
  (b_cons (s_set 3 nd ((d_ixV 6 (d_var 7))).dat)
  (b_cons (s_app 4 (d_var 3))
  (b_one (s_set 6 nd (s_call c__law_onward hr tk (a_cons (d_var 3) (a_cons (d_var 1) a_nil)) (len_cons (len_cons len_nil))))))))))
  (b_cons (s_if ((w_or (t_ne hu (d_var 3) (d_tup (a_cons (d_tup a_nil len_nil) (a_cons (d_lenV 1 T.len) a_nil)) (len_cons (len_cons len_nil)))) (w_or1 (t_lt (d_var 5) (d_lenV 2 T.len))))).t
  (b_one (s_ret (d_non).dat))
  b_nil)
  (b_one (s_retV 4))))))))

/-! ### _law_put_otherwise -/
abbrev s__law_put_otherwise : Stmt := topS 31
theorem sc__law_put_otherwise : FnScope ["_law_way", "_law_cell", "_law_at", "_law_odd"] ["_law_way", "_law_cell"] (defScope s__law_put_otherwise) := ⟨rfl, rfl, rfl, by decide +kernel, rfl, by decide +kernel, by decide +kernel⟩
noncomputable def g__law_put_otherwise : En → Out Fl :=
  (gSeq (gIf (tAndD (op2 fEq (op2 fMod (dVar 1) (dC (.int 5))) (dC (.int 4))) (op2 fGt (dLenV 0) (dC (.int 0))))
  (gSeq (gSet 2 (GM.dat (op2 fMod (op2 fDiv (dVar 1) (dC (.int 5))) (dLenV 0))))
  (gRet (op2 fAdd (frz (op2 fAdd (frz (dSl (dVar 0) oNone (oSome (dVar 2)))) (frz (dLst (dCons (op2 (boolD fEq) (dIxV 0 (dVar 2)) (dC (.int 1))) dNil))))) (frz (dSl (dVar 0) (oSome (frz (op2 fAdd (dVar 2) (dC (.int 1))))) oNone)))))
  gNx)
  (gSeq (gSet 2 (GM.dat (op2 fMod (op2 fDiv (dVar 1) (dC (.int 36))) (frz (op2 fAdd (dLenV 0) (dC (.int 1)))))))
  (gSeq (gSet 3 (GM.dat (op2 fIx (frz (dLst (dCons (dC (.int 0)) (dCons (dC (.int 1)) (dCons (dC (.bool true)) (dCons (dC (.bool false)) (dCons (dC (.int 2)) (dCons (op1 fNeg (dC (.int 1))) (dCons (dC (.str "1")) (dCons (dC .none) (dCons (dC (.int 3)) (dCons (op1 fNeg (dC (.int 2))) (dCons (frz (dLst (dCons (dC (.int 0)) dNil))) (dCons (dTup dNil) dNil)))))))))))))) (op2 fMod (op2 fDiv (dVar 1) (dC (.int 3))) (dC (.int 12))))))
  (gRet (GM.dat (op2 fIx (frz (dLst (dCons (frz (op2 fAdd (frz (op2 fAdd (frz (dSl (dVar 0) oNone (oSome (dVar 2)))) (frz (dLst (dCons (dVar 3) dNil))))) (frz (dSl (dVar 0) (oSome (dVar 2)) oNone)))) (dCons (frz (op2 fAdd (frz (dSl (dVar 0) oNone (oSome (dVar 2)))) (frz (dSl (dVar 0) (oSome (frz (op2 fAdd (dVar 2) (dC (.int 1))))) oNone)))) (dCons (frz (op2 fAdd (frz (op2 fAdd (frz (dSl (dVar 0) oNone (oSome (dVar 2)))) (frz (dLst (dCons (dVar 3) dNil))))) (frz (dSl (dVar 0) (oSome (frz (op2 fAdd (dVar 2) (dC (.int 1))))) oNone)))) dNil))))) (op2 fMod (dVar 1) (dC (.int 3)))))))))
noncomputable def F__law_put_otherwise : List PyData → Res := runF ["_law_way", "_law_cell", "_law_at", "_law_odd"].length ["_law_way", "_law_cell"].length g__law_put_otherwise
theorem ok__law_put_otherwise {f : Addr} {fd : FuncData} (F : L2.Fun K "_law_put_otherwise" "_law_put_otherwise" s__law_put_otherwise f fd) (gm : mg "_law_put_otherwise" = some (.ref f)) (T : Bi mg)     : Fn P w K mg base C 1 "_law_put_otherwise" 2 F__law_put_otherwise := by
  have hb : Binds K fd ["_law_way", "_law_cell"] [] := F.binds fun _ _ _ _ _ _ us hl => match us, hl with | [_, _], _ => rfl
  refine fn_mk gm F.kp hb ?_
  refine fn_ok (k := 0) (N := ["_law_way", "_law_cell", "_law_at", "_law_odd"]) (ps := ["_law_way", "_law_cell"]) (g := g__law_put_otherwise) F sc__law_put_otherwise fun cdv A outer s H E hr => ?_
  have nd := sc__law_put_otherwise.nd
  have hu := hr.units
  have hu1 := hu_of hr
  have tk : L2N.Takes (cxOf (L2N.CX P w) P w K mg base ["_law_way", "_law_cell", "_law_at", "_law_odd"] "_law_put_otherwise" (defScope s__law_put_otherwise) f cdv A outer s H E) (WF E) := L2N.takes_of rfl rfl rfl rfl
  exact (b_cons (s_if ((w_and (t_eq hu (d_mod (d_var 1) d_int) d_int) (w_and1 (t_gt (d_lenV 0 T.len) d_int)))).t
  (b_cons (s_set 2 nd ((d_mod (d_fdiv (d_var 1) d_int) (d_lenV 0 T.len))).dat)
  (b_one (s_ret (s_add ((s_add ((s_slice (d_var 0) o_none (o_some (d_var 2)))).frz ((s_lst (a_cons (d_eq hu (d_ixV 0 (d_var 2)) d_int) a_nil) (len_cons len_nil))).frz)).frz ((s_slice (d_var 0) (o_some ((s_add (d_var 2) d_int)).frz) o_none)).frz))))
  b_nil)
  (b_cons (s_set 2 nd ((d_mod (d_fdiv (d_var 1) d_int) ((s_add (d_lenV 0 T.len) d_int)).frz)).dat)
  (b_cons (s_set 3 nd ((d_ix ((s_lst (a_cons d_int (a_cons d_int (a_cons d_bl (a_cons d_bl (a_cons d_int (a_cons (d_neg d_int) (a_cons d_str (a_cons d_non (a_cons d_int (a_cons (d_neg d_int) (a_cons ((s_lst (a_cons d_int a_nil) (len_cons len_nil))).frz (a_cons (d_tup a_nil len_nil) a_nil)))))))))))) (len_cons (len_cons (len_cons (len_cons (len_cons (len_cons (len_cons (len_cons (len_cons (len_cons (len_cons (len_cons len_nil)))))))))))))).frz (d_mod (d_fdiv (d_var 1) d_int) d_int))).dat)
  (b_one (s_ret ((d_ix ((s_lst (a_cons ((s_add ((s_add ((s_slice (d_var 0) o_none (o_some (d_var 2)))).frz ((s_lst (a_cons (d_var 3) a_nil) (len_cons len_nil))).frz)).frz ((s_slice (d_var 0) (o_some (d_var 2)) o_none)).frz)).frz (a_cons ((s_add ((s_slice (d_var 0) o_none (o_some (d_var 2)))).frz ((s_slice (d_var 0) (o_some ((s_add (d_var 2) d_int)).frz) o_none)).frz)).frz (a_cons ((s_add ((s_add ((s_slice (d_var 0) o_none (o_some (d_var 2)))).frz ((s_lst (a_cons (d_var 3) a_nil) (len_cons len_nil))).frz)).frz ((s_slice (d_var 0) (o_some ((s_add (d_var 2) d_int)).frz) o_none)).frz)).frz a_nil))) (len_cons (len_cons (len_cons len_nil))))).frz (d_mod (d_var 1) d_int))).dat)))))

/-! ### _law_changed -/
abbrev s__law_changed : Stmt := topS 32
theorem sc__law_changed : FnScope ["_law_text", "_law_cell", "_law_head", "_law_at", "_law_sign_here"] ["_law_text", "_law_cell", "_law_head"] (defScope s__law_changed) := ⟨rfl, rfl, rfl, by decide +kernel, rfl, by decide +kernel, by decide +kernel⟩
noncomputable def g__law_changed : En → Out Fl :=
  (gSeq (gSet 3 (GM.dat (op2 fMod (op2 fDiv (dVar 1) (dC (.int 6))) (frz (op2 fAdd (dLenV 0) (dC (.int 1)))))))
  (gSeq (gSet 4 (sCall F__law_sign (dCons (op2 fIx (frz (dLst (dCons (dVar 2) (dCons (op2 fDiv (dVar 2) (dC (.int 95))) dNil)))) (op2 fMod (op2 fDiv (dVar 1) (dC (.int 3))) (dC (.int 2)))) dNil)))
  (gRet (GM.dat (op2 fIx (frz (dLst (dCons (frz (op2 fAdd (frz (op2 fAdd (frz (dSl (dVar 0) oNone (oSome (dVar 3)))) (dVar 4))) (frz (dSl (dVar 0) (oSome (dVar 3)) oNone)))) (dCons (frz (op2 fAdd (frz (dSl (dVar 0) oNone (oSome (dVar 3)))) (frz (dSl (dVar 0) (oSome (frz (op2 fAdd (dVar 3) (dC (.int 1))))) oNone)))) (dCons (frz (op2 fAdd (frz (op2 fAdd (frz (dSl (dVar 0) oNone (oSome (dVar 3)))) (dVar 4))) (frz (dSl (dVar 0) (oSome (frz (op2 fAdd (dVar 3) (dC (.int 1))))) oNone)))) dNil))))) (op2 fMod (dVar 1) (dC (.int 3))))))))
noncomputable def F__law_changed : List PyData → Res := runF ["_law_text", "_law_cell", "_law_head", "_law_at", "_law_sign_here"].length ["_law_text", "_law_cell", "_law_head"].length g__law_changed
theorem ok__law_changed {f : Addr} {fd : FuncData} (F : L2.Fun K "_law_changed" "_law_changed" s__law_changed f fd) (gm : mg "_law_changed" = some (.ref f)) (T : Bi mg) (c__law_sign : Fn P w K mg base C 1 "_law_sign" 1 F__law_sign)    : Fn P w K mg base C 2 "_law_changed" 3 F__law_changed := by
  have hb : Binds K fd ["_law_text", "_law_cell", "_law_head"] [] := F.binds fun _ _ _ _ _ _ us hl => match us, hl with | [_, _, _], _ => rfl
  refine fn_mk gm F.kp hb ?_
  refine fn_ok (k := 1) (N := ["_law_text", "_law_cell", "_law_head", "_law_at", "_law_sign_here"]) (ps := ["_law_text", "_law_cell", "_law_head"]) (g := g__law_changed) F sc__law_changed fun cdv A outer s H E hr => ?_
  have nd := sc__law_changed.nd
  have hu := hr.units
  have hu1 := hu_of hr
  have tk : L2N.Takes (cxOf (L2N.CX P w) P w K mg base ["_law_text", "_law_cell", "_law_head", "_law_at", "_law_sign_here"] "_law_changed" (defScope s__law_changed) f cdv A outer s H E) (WF E) := L2N.takes_of rfl rfl rfl rfl
  exact (b_cons (s_set 3 nd ((d_mod (d_fdiv (d_var 1) d_int) ((s_add (d_lenV 0 T.len) d_int)).frz)).dat)
  (b_cons (s_set 4 nd (s_call c__law_sign hr tk (a_cons (d_ix ((s_lst (a_cons (d_var 2) (a_cons (d_fdiv (d_var 2) d_int) a_nil)) (len_cons (len_cons len_nil)))).frz (d_mod (d_fdiv (d_var 1) d_int) d_int)) a_nil) (len_cons len_nil)))
  (b_one (s_ret ((d_ix ((s_lst (a_cons ((s_add ((s_add ((s_slice (d_var 0) o_none (o_some (d_var 3)))).frz (d_var 4))).frz ((s_slice (d_var 0) (o_some (d_var 3)) o_none)).frz)).frz (a_cons ((s_add ((s_slice (d_var 0) o_none (o_some (d_var 3)))).frz ((s_slice (d_var 0) (o_some ((s_add (d_var 3) d_int)).frz) o_none)).frz)).frz (a_cons ((s_add ((s_add ((s_slice (d_var 0) o_none (o_some (d_var 3)))).frz (d_var 4))).frz ((s_slice (d_var 0) (o_some ((s_add (d_var 3) d_int)).frz) o_none)).frz)).frz a_nil))) (len_cons (len_cons (len_cons len_nil))))).frz (d_mod (d_var 1) d_int))).dat))))

/-! ### _law_refused -/
abbrev s__law_refused : Stmt := topS 33
theorem sc__law_refused : FnScope ["_law_pattern", "_law_text", "_law_way", "e", "_law_other"] ["_law_pattern", "_law_text", "_law_way"] (defScope s__law_refused) := ⟨rfl, rfl, rfl, by decide +kernel, rfl, by decide +kernel, by decide +kernel⟩
noncomputable def b__law_refused_0 : En → Out Fl :=
  (gDrop (frz (sCall F_walk (dCons (dVar 0) (dCons (dVar 1) (dCons (dVar 2) dNil))))))
noncomputable def gs__law_refused (a : Addr) (c : Er) : En → Out Fl :=
  (gSeq (gSet 4 (GM.dat (dOr (dIsE 3 a (decide (c = .bad))) (dOr (dIsE 3 a (decide (c = .twice))) (dIsE 3 a (decide (c = .empt)))))))
  (gRet (GM.dat (dAnd (dIsE 3 a true) (dNot (dVar 4))))))
def fb__law_refused (c : Er) : En → Option PyData
  | [.dat _, .dat _, .dat _, .emp, .emp] => if c = .way then some (.bool true) else none
  | _ => none
theorem hfb__law_refused (a : Addr) (c : Er) (r : En) (d : PyData) (h : fb__law_refused c r = some d) : ∃ r', gs__law_refused a c (r.set 3 (.exc a c)) = .ok (.rt (.dat d)) r' := by
  unfold fb__law_refused at h
  split at h
  · split at h
    · rename_i hc
      subst hc
      cases h
      simp [gs__law_refused]
    · cases h
  · cases h

noncomputable def g__law_refused : En → Out Fl :=
  (gSeq (gTryAs (fun _ => true) b__law_refused_0 fb__law_refused)
  (gRet (GM.dat (dC (.bool false)))))
noncomputable def F__law_refused : List PyData → Res := runF ["_law_pattern", "_law_text", "_law_way", "e", "_law_other"].length ["_law_pattern", "_law_text", "_law_way"].length g__law_refused
theorem okH__law_refused {f : Addr} {fd : FuncData} (F : L2.Fun K "_law_refused" "_law_refused" s__law_refused f fd) (gm : mg "_law_refused" = some (.ref f)) (T : Bi mg) (d_walk : FnD P w K mg base C 5 "walk" 3 F_walk) (e_bad : ErrC K mg "BadPattern" (C .bad)) (e_empt : ErrC K mg "EmptyRound" (C .empt)) (e_twice : ErrC K mg "TwiceNumbered" (C .twice)) (xi : ExI K mg C) : FnD P w K mg base C 6 "_law_refused" 3 F__law_refused := by
  have hb : Binds K fd ["_law_pattern", "_law_text", "_law_way"] [] := F.binds fun _ _ _ _ _ _ us hl => match us, hl with | [_, _, _], _ => rfl
  refine fnD_mk gm F.kp hb ?_
  refine fn_okH (k := 5) (N := ["_law_pattern", "_law_text", "_law_way", "e", "_law_other"]) (ps := ["_law_pattern", "_law_text", "_law_way"]) (g := g__law_refused) F sc__law_refused fun cdv A outer s H E pp hr hot => ?_
  have nd := sc__law_refused.nd
  have hu : (L2H.cxH (L2.CX P w) P w K mg base ["_law_pattern", "_law_text", "_law_way", "e", "_law_other"] "_law_refused" (defScope s__law_refused) f cdv A outer s H E pp).A.units + 64 < cLine := huH hr
  have hu1 : (L2H.cxH (L2.CX P w) P w K mg base ["_law_pattern", "_law_text", "_law_way", "e", "_law_other"] "_law_refused" (defScope s__law_refused) f cdv A outer s H E pp).A.units + 1 < cLine := hu1H hr
  have tk : L2.Takes (L2H.cxH (L2.CX P w) P w K mg base ["_law_pattern", "_law_text", "_law_way", "e", "_law_other"] "_law_refused" (defScope s__law_refused) f cdv A outer s H E pp) (WF E) := L2.takes_of rfl rfl rfl rfl
  obtain ⟨DM, gM, xM⟩ := xi.mke
  exact (b_cons (s_tryAsH 3 (er := fun _ => true) (gs := gs__law_refused) (fb := fb__law_refused) xM ⟨rfl, by decide, .inl gM⟩ tk hot (fun W' pn xe hot tk hp =>
  (b_one (s_drop ((s_callH d_walk hr hot tk (a_cons (d_var 0) (a_cons (d_var 1) (a_cons (d_var 2) a_nil))) (len_cons (len_cons (len_cons len_nil))))).frz))) (fun a oe c pn hz hv =>
  (b_cons (s_set 4 nd ((d_or (d_isE 3 (xi.y c) hz hv T.isinstance e_bad.gC (xi.kk c .bad)) (d_or (d_isE 3 (xi.y c) hz hv T.isinstance e_twice.gC (xi.kk c .twice)) (d_one (d_isE 3 (xi.y c) hz hv T.isinstance e_empt.gC (xi.kk c .empt)))))).dat)
  (b_one (s_ret ((d_and (d_isEB 3 (xi.y c) hz hv T.isinstance xi.nv (by decide +kernel) (xi.kv c)) (d_one (d_not (d_var 4))))).dat)))) hfb__law_refused nd)
  (b_one (s_ret (d_bl).dat)))

/-! ### law -/
abbrev s_law : Stmt := topS 34
theorem sc_law : FnScope ["_law_script", "_law_head", "_law_made_here", "_law_text", "_law_way", "_law_due", "_law_handed", "_law_found", "_law_one"] ["_law_script"] (defScope s_law) := ⟨rfl, rfl, rfl, by decide +kernel, rfl, by decide +kernel, by decide +kernel⟩
noncomputable def b_law_0 : En → Out Fl :=
  (gSet 7 (sCall F_walk (dCons (dIxV 2 (dC (.int 0))) (dCons (dVar 3) (dCons (dVar 6) dNil)))))
noncomputable def b_law_1 : En → Out Fl :=
  (gOnly (gRet (GM.dat (dAnd (op1 fIsN (dVar 5)) (dAnd (op2 (boolD fEq) (dVar 6) (dVar 4)) (frz (sCall F__law_refused (dCons (dIxV 2 (dC (.int 0))) (dCons (dVar 3) (dCons (dVar 4) dNil))))))))))
noncomputable def b_law_2 : En → Out Fl :=
  (gIf (tOrD (tNotD (tVal (op1 (fIsi "tuple") (dVar 8)))) (tOrD (op2 fNe (dLenV 8) (dC (.int 2))) (tOrD (tNotD (tVal (op1 (fIsi "int") (dIxV 8 (dC (.int 1)))))) (tVal (op1 (fIsi "bool") (dIxV 8 (dC (.int 1))))))))
  (gRet (GM.dat (dC (.bool false))))
  gNx)
noncomputable def t_law_12 : En → Out Fl :=
  (gRet (GM.dat (dAnd (op2 (boolD fEq) (dVar 7) (dVar 5)) (op2 (boolD fEq) (dVar 6) (dVar 4)))))
noncomputable def t_law_11 : En → Out Fl :=
  (gSeq (gFor (iLst (dVar 7)) (gtN 8) b_law_2)
  t_law_12)
noncomputable def t_law_10 : En → Out Fl :=
  (gSeq (gIf (tOrD (op1 bIsN (dVar 5)) (tOrD (tNotD (tVal (op1 (fIsi "list") (dVar 7)))) (tOrD (op2 fNe (dLenV 6) (dLenV 4)) (op2 fNe (dLenV 7) (dLenV 5)))))
  (gRet (GM.dat (dC (.bool false))))
  gNx)
  t_law_11)
noncomputable def t_law_9 : En → Out Fl :=
  (gSeq (gTryN [((fun c => decide (c = .way)), b_law_1)] b_law_0)
  t_law_10)
noncomputable def t_law_8 : En → Out Fl :=
  (gSeq (gSet 7 (GM.dat (dC .none)))
  t_law_9)
noncomputable def t_law_7 : En → Out Fl :=
  (gSeq (gSet 6 (op1 fList (dVar 4)))
  t_law_8)
noncomputable def t_law_6 : En → Out Fl :=
  (gSeq (gSet 5 (sCall F__law_walked (dCons (dIxV 2 (dC (.int 0))) (dCons (dVar 3) (dCons (dVar 4) dNil)))))
  t_law_7)
noncomputable def t_law_5 : En → Out Fl :=
  (gSeq (gIf (op2 fEq (op2 fMod (frz (sCall F__law_cell_at (dCons (dVar 0) (dCons (dC (.int 1)) dNil)))) (dC (.int 4))) (dC (.int 2)))
  (gSet 4 (sCall F__law_put_otherwise (dCons (dVar 4) (dCons (frz (sCall F__law_cell_at (dCons (dVar 0) (dCons (dC (.int 2)) dNil)))) dNil))))
  gNx)
  t_law_6)
noncomputable def t_law_4 : En → Out Fl :=
  (gSeq (gIf (op2 fEq (op2 fMod (frz (sCall F__law_cell_at (dCons (dVar 0) (dCons (dC (.int 1)) dNil)))) (dC (.int 4))) (dC (.int 1)))
  (gSet 3 (sCall F__law_changed (dCons (dVar 3) (dCons (frz (sCall F__law_cell_at (dCons (dVar 0) (dCons (dC (.int 2)) dNil)))) (dCons (dVar 1) dNil)))))
  gNx)
  t_law_5)
noncomputable def t_law_3 : En → Out Fl :=
  (gSeq (gSet 4 (GM.dat (dIxV 2 (dC (.int 3)))))
  t_law_4)
noncomputable def t_law_2 : En → Out Fl :=
  (gSeq (gSet 3 (GM.dat (dIxV 2 (dC (.int 2)))))
  t_law_3)
noncomputable def t_law_1 : En → Out Fl :=
  (gSeq (gSet 2 (sCall F__law_made (dCons (frz (dSl (dVar 0) (oSome (dC (.int 3))) (oSome (dC (.int 19))))) (dCons (dVar 1) dNil))))
  t_law_2)
noncomputable def t_law_0 : En → Out Fl :=
  (gSeq (gSet 1 (sCall F__law_cell_at (dCons (dVar 0) (dCons (dC (.int 0)) dNil))))
  t_law_1)
noncomputable def g_law : En → Out Fl :=
  t_law_0
noncomputable def F_law : List PyData → Res := runF ["_law_script", "_law_head", "_law_made_here", "_law_text", "_law_way", "_law_due", "_law_handed", "_law_found", "_law_one"].length ["_law_script"].length g_law
theorem fo_law {f : Addr} {fd : FuncData} (F : L2.Fun K "law" "law" s_law f fd) (T : Bi mg) (c__law_cell_at : Fn P w K mg base C 1 "_law_cell_at" 2 F__law_cell_at) (c__law_changed : Fn P w K mg base C 2 "_law_changed" 3 F__law_changed) (c__law_made : Fn P w K mg base C 3 "_law_made" 2 F__law_made) (c__law_put_otherwise : Fn P w K mg base C 1 "_law_put_otherwise" 2 F__law_put_otherwise) (c__law_walked : Fn P w K mg base C 2 "_law_walked" 3 F__law_walked) (c_walk : Fn P w K mg base C 5 "walk" 3 F_walk) (d__law_refused : FnD P w K mg base C 6 "_law_refused" 3 F__law_refused) (e_way : ErrC K mg "BadWay" (C .way)) (x_way : ∀ c, PySem.W.exmOne K (.ref (C c)) (.ref (C .way)) = some (decide (c = .way))) : FnOk P w K mg base (L2N.CX P w) 7 f fd ["_law_script"] (spD K C ["_law_script"].length F_law) := by
  refine fn_ok (k := 6) (N := ["_law_script", "_law_head", "_law_made_here", "_law_text", "_law_way", "_law_due", "_law_handed", "_law_found", "_law_one"]) (ps := ["_law_script"]) (g := g_law) F sc_law fun cdv A outer s H E hr => ?_
  have nd := sc_law.nd
  have hu := hr.units
  have hu1 := hu_of hr
  have tk : L2N.Takes (cxOf (L2N.CX P w) P w K mg base ["_law_script", "_law_head", "_law_made_here", "_law_text", "_law_way", "_law_due", "_law_handed", "_law_found", "_law_one"] "law" (defScope s_law) f cdv A outer s H E) (WF E) := L2N.takes_of rfl rfl rfl rfl
  have hp : PassesOwn (model P w) (cxOf (L2N.CX P w) P w K mg base ["_law_script", "_law_head", "_law_made_here", "_law_text", "_law_way", "_law_due", "_law_handed", "_law_found", "_law_one"] "law" (defScope s_law) f cdv A outer s H E).A (cxOf (L2N.CX P w) P w K mg base ["_law_script", "_law_head", "_law_made_here", "_law_text", "_law_way", "_law_due", "_law_handed", "_law_found", "_law_one"] "law" (defScope s_law) f cdv A outer s H E).env (cxOf (L2N.CX P w) P w K mg base ["_law_script", "_law_head", "_law_made_here", "_law_text", "_law_way", "_law_due", "_law_handed", "_law_found", "_law_one"] "law" (defScope s_law) f cdv A outer s H E).xe := passes_of (X := cxOf (L2N.CX P w) P w K mg base ["_law_script", "_law_head", "_law_made_here", "_law_text", "_law_way", "_law_due", "_law_handed", "_law_found", "_law_one"] "law" (defScope s_law) f cdv A outer s H E) rfl
  exact (b_cons (s_set 1 nd (s_call c__law_cell_at hr tk (a_cons (d_var 0) (a_cons d_int a_nil)) (len_cons (len_cons len_nil))))
  (b_cons (s_set 2 nd (s_call c__law_made hr tk (a_cons ((s_slice (d_var 0) (o_some d_int) (o_some d_int))).frz (a_cons (d_var 1) a_nil)) (len_cons (len_cons len_nil))))
  (b_cons (s_set 3 nd ((d_ixV 2 d_int)).dat)
  (b_cons (s_set 4 nd ((d_ixV 2 d_int)).dat)
  (b_cons (s_if (t_eq hu (d_mod ((s_call c__law_cell_at hr tk (a_cons (d_var 0) (a_cons d_int a_nil)) (len_cons (len_cons len_nil)))).frz d_int) d_int)
  (b_one (s_set 3 nd (s_call c__law_changed hr tk (a_cons (d_var 3) (a_cons ((s_call c__law_cell_at hr tk (a_cons (d_var 0) (a_cons d_int a_nil)) (len_cons (len_cons len_nil)))).frz (a_cons (d_var 1) a_nil))) (len_cons (len_cons (len_cons len_nil))))))
  b_nil)
  (b_cons (s_if (t_eq hu (d_mod ((s_call c__law_cell_at hr tk (a_cons (d_var 0) (a_cons d_int a_nil)) (len_cons (len_cons len_nil)))).frz d_int) d_int)
  (b_one (s_set 4 nd (s_call c__law_put_otherwise hr tk (a_cons (d_var 4) (a_cons ((s_call c__law_cell_at hr tk (a_cons (d_var 0) (a_cons d_int a_nil)) (len_cons (len_cons len_nil)))).frz a_nil)) (len_cons (len_cons len_nil)))))
  b_nil)
  (b_cons (s_set 5 nd (s_call c__law_walked hr tk (a_cons (d_ixV 2 d_int) (a_cons (d_var 3) (a_cons (d_var 4) a_nil))) (len_cons (len_cons (len_cons len_nil)))))
  (b_cons (s_set 6 nd (s_list T.list (d_var 4)))
  (b_cons (s_set 7 nd (d_non).dat)
  (b_cons (s_tryN tk (fun W' pn xe tk hp =>
  (b_one (s_set 7 nd (s_call c_walk hr tk (a_cons (d_ixV 2 d_int) (a_cons (d_var 3) (a_cons (d_var 6) a_nil))) (len_cons (len_cons (len_cons len_nil))))))) (.cons (er := fun c => decide (c = .way)) x_way ⟨rfl, by decide, .inl e_way.gC⟩ (fun a pn hot =>
  (b_only (b_one (s_ret ((d_and (d_isN (d_var 5)) (d_and (d_eq (by exact hu) (d_var 6) (d_var 4)) (d_one ((s_callH d__law_refused (roomH_s hr) hot takesO (a_cons (d_ixV 2 d_int) (a_cons (d_var 3) (a_cons (d_var 4) a_nil))) (len_cons (len_cons (len_cons len_nil))))).frz)))).dat)))) .nil))
  (b_cons (s_if ((w_or (t_isN (d_var 5)) (w_or (t_not (t_valD (d_isi isi_list T.isinstance T.list boot_list (d_var 7)))) (w_or (t_ne hu (d_lenV 6 T.len) (d_lenV 4 T.len)) (w_or1 (t_ne hu (d_lenV 7 T.len) (d_lenV 5 T.len))))))).t
  (b_one (s_ret (d_bl).dat))
  b_nil)
  (b_cons (s_for hp rfl (i_list (d_var 7)) (g_name 8 nd)
  (b_one (s_if ((w_or (t_not (t_valD (d_isi isi_tuple T.isinstance T.tuple boot_tuple (d_var 8)))) (w_or (t_ne hu (d_lenV 8 T.len) d_int) (w_or (t_not (t_valD (d_isi isi_int T.isinstance T.int boot_int (d_ixV 8 d_int)))) (w_or1 (t_valD (d_isi isi_bool T.isinstance T.bool boot_bool (d_ixV 8 d_int)))))))).t
  (b_one (s_ret (d_bl).dat))
  b_nil)))
  (b_one (s_ret ((d_and (d_eq hu (d_var 7) (d_var 5)) (d_one (d_eq hu (d_var 6) (d_var 4))))).dat))))))))))))))
end
theorem all_mk {P : Program} {w : World} {K : PySem.W.Frag} {h : Heap} {mg : Str → Option Value} {fa : Addr} (X : K.In h) (G : h.Ns mainGlobals mg) (hfa : mg "law" = some (.ref fa))
    {f0 : Addr} {od0 an0 : Option Addr} {sl0 : Array (Option Value)} {oc0 kV0 dc0 pm0 cd0 ct0 : Value}
    {f1 : Addr} {od1 an1 : Option Addr} {sl1 : Array (Option Value)} {oc1 kV1 dc1 pm1 cd1 ct1 : Value}
    {f2 : Addr} {od2 an2 : Option Addr} {sl2 : Array (Option Value)} {oc2 kV2 dc2 pm2 cd2 ct2 : Value}
    {f3 : Addr} {od3 an3 : Option Addr} {sl3 : Array (Option Value)} {oc3 kV3 dc3 pm3 cd3 ct3 : Value}
    {f4 : Addr} {od4 an4 : Option Addr} {sl4 : Array (Option Value)} {oc4 kV4 dc4 pm4 cd4 ct4 : Value}
    {f5 : Addr} {od5 an5 : Option Addr} {sl5 : Array (Option Value)} {oc5 kV5 dc5 pm5 cd5 ct5 : Value}
    {f6 : Addr} {od6 an6 : Option Addr} {sl6 : Array (Option Value)} {oc6 kV6 dc6 pm6 cd6 ct6 : Value}
    {f7 : Addr} {od7 an7 : Option Addr} {sl7 : Array (Option Value)} {oc7 kV7 dc7 pm7 cd7 ct7 : Value}
    {f8 : Addr} {od8 an8 : Option Addr} {sl8 : Array (Option Value)} {oc8 kV8 dc8 pm8 cd8 ct8 : Value}
    {f9 : Addr} {od9 an9 : Option Addr} {sl9 : Array (Option Value)} {oc9 kV9 dc9 pm9 cd9 ct9 : Value}
    {f10 : Addr} {od10 an10 : Option Addr} {sl10 : Array (Option Value)} {oc10 kV10 dc10 pm10 cd10 ct10 : Value}
    {f11 : Addr} {od11 an11 : Option Addr} {sl11 : Array (Option Value)} {oc11 kV11 dc11 pm11 cd11 ct11 : Value}
    {f12 : Addr} {od12 an12 : Option Addr} {sl12 : Array (Option Value)} {oc12 kV12 dc12 pm12 cd12 ct12 : Value}
    {f13 : Addr} {od13 an13 : Option Addr} {sl13 : Array (Option Value)} {oc13 kV13 dc13 pm13 cd13 ct13 : Value}
    {f14 : Addr} {od14 an14 : Option Addr} {sl14 : Array (Option Value)} {oc14 kV14 dc14 pm14 cd14 ct14 : Value}
    {f15 : Addr} {od15 an15 : Option Addr} {sl15 : Array (Option Value)} {oc15 kV15 dc15 pm15 cd15 ct15 : Value}
    {f16 : Addr} {od16 an16 : Option Addr} {sl16 : Array (Option Value)} {oc16 kV16 dc16 pm16 cd16 ct16 : Value}
    {f17 : Addr} {od17 an17 : Option Addr} {sl17 : Array (Option Value)} {oc17 kV17 dc17 pm17 cd17 ct17 : Value}
    {f18 : Addr} {od18 an18 : Option Addr} {sl18 : Array (Option Value)} {oc18 kV18 dc18 pm18 cd18 ct18 : Value}
    {f19 : Addr} {od19 an19 : Option Addr} {sl19 : Array (Option Value)} {oc19 kV19 dc19 pm19 cd19 ct19 : Value}
    {f20 : Addr} {od20 an20 : Option Addr} {sl20 : Array (Option Value)} {oc20 kV20 dc20 pm20 cd20 ct20 : Value}
    {f21 : Addr} {od21 an21 : Option Addr} {sl21 : Array (Option Value)} {oc21 kV21 dc21 pm21 cd21 ct21 : Value}
    {f22 : Addr} {od22 an22 : Option Addr} {sl22 : Array (Option Value)} {oc22 kV22 dc22 pm22 cd22 ct22 : Value}
    {f23 : Addr} {od23 an23 : Option Addr} {sl23 : Array (Option Value)} {oc23 kV23 dc23 pm23 cd23 ct23 : Value}
    {f24 : Addr} {od24 an24 : Option Addr} {sl24 : Array (Option Value)} {oc24 kV24 dc24 pm24 cd24 ct24 : Value}
    (a0 : PySem.W.nsIn K mainGlobals "inner" = some (some (.ref f0))) (l0 : K.lookup f0 = some ⟨oc0, od0, .func (PySem.W.fnOf "inner" "inner" (defArgs s_inner) (defBody s_inner) (defScope s_inner) .none kV0 dc0 pm0 an0 cd0 ct0), sl0⟩) (c0 : PySem.W.codeIn K cd0 "inner" = true) (k0 : PySem.W.keepIn K (.ref f0) = true)
    (a1 : PySem.W.nsIn K mainGlobals "parts" = some (some (.ref f1))) (l1 : K.lookup f1 = some ⟨oc1, od1, .func (PySem.W.fnOf "parts" "parts" (defArgs s_parts) (defBody s_parts) (defScope s_parts) .none kV1 dc1 pm1 an1 cd1 ct1), sl1⟩) (c1 : PySem.W.codeIn K cd1 "parts" = true) (k1 : PySem.W.keepIn K (.ref f1) = true)
    (a2 : PySem.W.nsIn K mainGlobals "numbers" = some (some (.ref f2))) (l2 : K.lookup f2 = some ⟨oc2, od2, .func (PySem.W.fnOf "numbers" "numbers" (defArgs s_numbers) (defBody s_numbers) (defScope s_numbers) .none kV2 dc2 pm2 an2 cd2 ct2), sl2⟩) (c2 : PySem.W.codeIn K cd2 "numbers" = true) (k2 : PySem.W.keepIn K (.ref f2) = true)
    (a3 : PySem.W.nsIn K mainGlobals "takes_nothing" = some (some (.ref f3))) (l3 : K.lookup f3 = some ⟨oc3, od3, .func (PySem.W.fnOf "takes_nothing" "takes_nothing" (defArgs s_takes_nothing) (defBody s_takes_nothing) (defScope s_takes_nothing) .none kV3 dc3 pm3 an3 cd3 ct3), sl3⟩) (c3 : PySem.W.codeIn K cd3 "takes_nothing" = true) (k3 : PySem.W.keepIn K (.ref f3) = true)
    (a4 : PySem.W.nsIn K mainGlobals "is_number" = some (some (.ref f4))) (l4 : K.lookup f4 = some ⟨oc4, od4, .func (PySem.W.fnOf "is_number" "is_number" (defArgs s_is_number) (defBody s_is_number) (defScope s_is_number) .none kV4 dc4 pm4 an4 cd4 ct4), sl4⟩) (c4 : PySem.W.codeIn K cd4 "is_number" = true) (k4 : PySem.W.keepIn K (.ref f4) = true)
    (a5 : PySem.W.nsIn K mainGlobals "has_form" = some (some (.ref f5))) (l5 : K.lookup f5 = some ⟨oc5, od5, .func (PySem.W.fnOf "has_form" "has_form" (defArgs s_has_form) (defBody s_has_form) (defScope s_has_form) .none kV5 dc5 pm5 an5 cd5 ct5), sl5⟩) (c5 : PySem.W.codeIn K cd5 "has_form" = true) (k5 : PySem.W.keepIn K (.ref f5) = true)
    (a6 : PySem.W.nsIn K mainGlobals "checked" = some (some (.ref f6))) (l6 : K.lookup f6 = some ⟨oc6, od6, .func (PySem.W.fnOf "checked" "checked" (defArgs s_checked) (defBody s_checked) (defScope s_checked) .none kV6 dc6 pm6 an6 cd6 ct6), sl6⟩) (c6 : PySem.W.codeIn K cd6 "checked" = true) (k6 : PySem.W.keepIn K (.ref f6) = true)
    (a7 : PySem.W.nsIn K mainGlobals "first_state" = some (some (.ref f7))) (l7 : K.lookup f7 = some ⟨oc7, od7, .func (PySem.W.fnOf "first_state" "first_state" (defArgs s_first_state) (defBody s_first_state) (defScope s_first_state) .none kV7 dc7 pm7 an7 cd7 ct7), sl7⟩) (c7 : PySem.W.codeIn K cd7 "first_state" = true) (k7 : PySem.W.keepIn K (.ref f7) = true)
    (a8 : PySem.W.nsIn K mainGlobals "is_end" = some (some (.ref f8))) (l8 : K.lookup f8 = some ⟨oc8, od8, .func (PySem.W.fnOf "is_end" "is_end" (defArgs s_is_end) (defBody s_is_end) (defScope s_is_end) .none kV8 dc8 pm8 an8 cd8 ct8), sl8⟩) (c8 : PySem.W.codeIn K cd8 "is_end" = true) (k8 : PySem.W.keepIn K (.ref f8) = true)
    (a9 : PySem.W.nsIn K mainGlobals "takes" = some (some (.ref f9))) (l9 : K.lookup f9 = some ⟨oc9, od9, .func (PySem.W.fnOf "takes" "takes" (defArgs s_takes) (defBody s_takes) (defScope s_takes) .none kV9 dc9 pm9 an9 cd9 ct9), sl9⟩) (c9 : PySem.W.codeIn K cd9 "takes" = true) (k9 : PySem.W.keepIn K (.ref f9) = true)
    (a10 : PySem.W.nsIn K mainGlobals "onward" = some (some (.ref f10))) (l10 : K.lookup f10 = some ⟨oc10, od10, .func (PySem.W.fnOf "onward" "onward" (defArgs s_onward) (defBody s_onward) (defScope s_onward) .none kV10 dc10 pm10 an10 cd10 ct10), sl10⟩) (c10 : PySem.W.codeIn K cd10 "onward" = true) (k10 : PySem.W.keepIn K (.ref f10) = true)
    (a11 : PySem.W.nsIn K mainGlobals "number_at" = some (some (.ref f11))) (l11 : K.lookup f11 = some ⟨oc11, od11, .func (PySem.W.fnOf "number_at" "number_at" (defArgs s_number_at) (defBody s_number_at) (defScope s_number_at) .none kV11 dc11 pm11 an11 cd11 ct11), sl11⟩) (c11 : PySem.W.codeIn K cd11 "number_at" = true) (k11 : PySem.W.keepIn K (.ref f11) = true)
    (a12 : PySem.W.nsIn K mainGlobals "walk" = some (some (.ref f12))) (l12 : K.lookup f12 = some ⟨oc12, od12, .func (PySem.W.fnOf "walk" "walk" (defArgs s_walk) (defBody s_walk) (defScope s_walk) .none kV12 dc12 pm12 an12 cd12 ct12), sl12⟩) (c12 : PySem.W.codeIn K cd12 "walk" = true) (k12 : PySem.W.keepIn K (.ref f12) = true)
    (a13 : PySem.W.nsIn K mainGlobals "_law_cell_at" = some (some (.ref f13))) (l13 : K.lookup f13 = some ⟨oc13, od13, .func (PySem.W.fnOf "_law_cell_at" "_law_cell_at" (defArgs s__law_cell_at) (defBody s__law_cell_at) (defScope s__law_cell_at) .none kV13 dc13 pm13 an13 cd13 ct13), sl13⟩) (c13 : PySem.W.codeIn K cd13 "_law_cell_at" = true) (k13 : PySem.W.keepIn K (.ref f13) = true)
    (a14 : PySem.W.nsIn K mainGlobals "_law_sign" = some (some (.ref f14))) (l14 : K.lookup f14 = some ⟨oc14, od14, .func (PySem.W.fnOf "_law_sign" "_law_sign" (defArgs s__law_sign) (defBody s__law_sign) (defScope s__law_sign) .none kV14 dc14 pm14 an14 cd14 ct14), sl14⟩) (c14 : PySem.W.codeIn K cd14 "_law_sign" = true) (k14 : PySem.W.keepIn K (.ref f14) = true)
    (a15 : PySem.W.nsIn K mainGlobals "_law_leaf" = some (some (.ref f15))) (l15 : K.lookup f15 = some ⟨oc15, od15, .func (PySem.W.fnOf "_law_leaf" "_law_leaf" (defArgs s__law_leaf) (defBody s__law_leaf) (defScope s__law_leaf) .none kV15 dc15 pm15 an15 cd15 ct15), sl15⟩) (c15 : PySem.W.codeIn K cd15 "_law_leaf" = true) (k15 : PySem.W.keepIn K (.ref f15) = true)
    (a16 : PySem.W.nsIn K mainGlobals "_law_two" = some (some (.ref f16))) (l16 : K.lookup f16 = some ⟨oc16, od16, .func (PySem.W.fnOf "_law_two" "_law_two" (defArgs s__law_two) (defBody s__law_two) (defScope s__law_two) .none kV16 dc16 pm16 an16 cd16 ct16), sl16⟩) (c16 : PySem.W.codeIn K cd16 "_law_two" = true) (k16 : PySem.W.keepIn K (.ref f16) = true)
    (a17 : PySem.W.nsIn K mainGlobals "_law_round" = some (some (.ref f17))) (l17 : K.lookup f17 = some ⟨oc17, od17, .func (PySem.W.fnOf "_law_round" "_law_round" (defArgs s__law_round) (defBody s__law_round) (defScope s__law_round) .none kV17 dc17 pm17 an17 cd17 ct17), sl17⟩) (c17 : PySem.W.codeIn K cd17 "_law_round" = true) (k17 : PySem.W.keepIn K (.ref f17) = true)
    (a18 : PySem.W.nsIn K mainGlobals "_law_made" = some (some (.ref f18))) (l18 : K.lookup f18 = some ⟨oc18, od18, .func (PySem.W.fnOf "_law_made" "_law_made" (defArgs s__law_made) (defBody s__law_made) (defScope s__law_made) .none kV18 dc18 pm18 an18 cd18 ct18), sl18⟩) (c18 : PySem.W.codeIn K cd18 "_law_made" = true) (k18 : PySem.W.keepIn K (.ref f18) = true)
    (a19 : PySem.W.nsIn K mainGlobals "_law_onward" = some (some (.ref f19))) (l19 : K.lookup f19 = some ⟨oc19, od19, .func (PySem.W.fnOf "_law_onward" "_law_onward" (defArgs s__law_onward) (defBody s__law_onward) (defScope s__law_onward) .none kV19 dc19 pm19 an19 cd19 ct19), sl19⟩) (c19 : PySem.W.codeIn K cd19 "_law_onward" = true) (k19 : PySem.W.keepIn K (.ref f19) = true)
    (a20 : PySem.W.nsIn K mainGlobals "_law_walked" = some (some (.ref f20))) (l20 : K.lookup f20 = some ⟨oc20, od20, .func (PySem.W.fnOf "_law_walked" "_law_walked" (defArgs s__law_walked) (defBody s__law_walked) (defScope s__law_walked) .none kV20 dc20 pm20 an20 cd20 ct20), sl20⟩) (c20 : PySem.W.codeIn K cd20 "_law_walked" = true) (k20 : PySem.W.keepIn K (.ref f20) = true)
    (a21 : PySem.W.nsIn K mainGlobals "_law_put_otherwise" = some (some (.ref f21))) (l21 : K.lookup f21 = some ⟨oc21, od21, .func (PySem.W.fnOf "_law_put_otherwise" "_law_put_otherwise" (defArgs s__law_put_otherwise) (defBody s__law_put_otherwise) (defScope s__law_put_otherwise) .none kV21 dc21 pm21 an21 cd21 ct21), sl21⟩) (c21 : PySem.W.codeIn K cd21 "_law_put_otherwise" = true) (k21 : PySem.W.keepIn K (.ref f21) = true)
    (a22 : PySem.W.nsIn K mainGlobals "_law_changed" = some (some (.ref f22))) (l22 : K.lookup f22 = some ⟨oc22, od22, .func (PySem.W.fnOf "_law_changed" "_law_changed" (defArgs s__law_changed) (defBody s__law_changed) (defScope s__law_changed) .none kV22 dc22 pm22 an22 cd22 ct22), sl22⟩) (c22 : PySem.W.codeIn K cd22 "_law_changed" = true) (k22 : PySem.W.keepIn K (.ref f22) = true)
    (a23 : PySem.W.nsIn K mainGlobals "_law_refused" = some (some (.ref f23))) (l23 : K.lookup f23 = some ⟨oc23, od23, .func (PySem.W.fnOf "_law_refused" "_law_refused" (defArgs s__law_refused) (defBody s__law_refused) (defScope s__law_refused) .none kV23 dc23 pm23 an23 cd23 ct23), sl23⟩) (c23 : PySem.W.codeIn K cd23 "_law_refused" = true) (k23 : PySem.W.keepIn K (.ref f23) = true)
    (a24 : PySem.W.nsIn K mainGlobals "law" = some (some (.ref f24))) (l24 : K.lookup f24 = some ⟨oc24, od24, .func (PySem.W.fnOf "law" "law" (defArgs s_law) (defBody s_law) (defScope s_law) .none kV24 dc24 pm24 an24 cd24 ct24), sl24⟩) (c24 : PySem.W.codeIn K cd24 "law" = true) (k24 : PySem.W.keepIn K (.ref f24) = true)
    (z_len : PySem.W.nsIn K mainGlobals "len" = some none) (z_isinstance : PySem.W.nsIn K mainGlobals "isinstance" = some none) (z_reversed : PySem.W.nsIn K mainGlobals "reversed" = some none) (z_range : PySem.W.nsIn K mainGlobals "range" = some none) (z_zip : PySem.W.nsIn K mainGlobals "zip" = some none) (z_bool : PySem.W.nsIn K mainGlobals "bool" = some none) (z_int : PySem.W.nsIn K mainGlobals "int" = some none) (z_str : PySem.W.nsIn K mainGlobals "str" = some none) (z_tuple : PySem.W.nsIn K mainGlobals "tuple" = some none) (z_list : PySem.W.nsIn K mainGlobals "list" = some none) (z_dict : PySem.W.nsIn K mainGlobals "dict" = some none) (z_set : PySem.W.nsIn K mainGlobals "set" = some none) {g_mark : Addr}
    {g_bad g_twice g_empt g_way : Addr}
    (a_bad : PySem.W.nsIn K mainGlobals "BadPattern" = some (some (.ref g_bad))) (x_bad : PySem.W.excIn K g_bad [.type "ValueError", .type "Exception", .type "BaseException", .type "object"] "ValueError.__new__" = true) (k_bad : PySem.W.keepIn K (.ref g_bad) = true) (b_bad : PySem.W.subIn K (.ref g_bad) (.type "BaseException") = some true) (t_bad : PySem.W.typeIn K (.ref g_bad) = some (.type "type")) (d_bad : PySem.W.hasDictIn K g_bad = true)
    (a_twice : PySem.W.nsIn K mainGlobals "TwiceNumbered" = some (some (.ref g_twice))) (x_twice : PySem.W.excIn K g_twice [.type "ValueError", .type "Exception", .type "BaseException", .type "object"] "ValueError.__new__" = true) (k_twice : PySem.W.keepIn K (.ref g_twice) = true) (b_twice : PySem.W.subIn K (.ref g_twice) (.type "BaseException") = some true) (t_twice : PySem.W.typeIn K (.ref g_twice) = some (.type "type")) (d_twice : PySem.W.hasDictIn K g_twice = true)
    (a_empt : PySem.W.nsIn K mainGlobals "EmptyRound" = some (some (.ref g_empt))) (x_empt : PySem.W.excIn K g_empt [.type "ValueError", .type "Exception", .type "BaseException", .type "object"] "ValueError.__new__" = true) (k_empt : PySem.W.keepIn K (.ref g_empt) = true) (b_empt : PySem.W.subIn K (.ref g_empt) (.type "BaseException") = some true) (t_empt : PySem.W.typeIn K (.ref g_empt) = some (.type "type")) (d_empt : PySem.W.hasDictIn K g_empt = true)
    (a_way : PySem.W.nsIn K mainGlobals "BadWay" = some (some (.ref g_way))) (x_way : PySem.W.excIn K g_way [.type "ValueError", .type "Exception", .type "BaseException", .type "object"] "ValueError.__new__" = true) (k_way : PySem.W.keepIn K (.ref g_way) = true) (b_way : PySem.W.subIn K (.ref g_way) (.type "BaseException") = some true) (t_way : PySem.W.typeIn K (.ref g_way) = some (.type "type")) (d_way : PySem.W.hasDictIn K g_way = true)
    (s_bad_way : PySem.W.subIn K (.ref g_bad) (.ref g_way) = some false) (s_twice_way : PySem.W.subIn K (.ref g_twice) (.ref g_way) = some false) (s_empt_way : PySem.W.subIn K (.ref g_empt) (.ref g_way) = some false) (s_way_way : PySem.W.subIn K (.ref g_way) (.ref g_way) = some true) (a_mark : PySem.W.nsIn K mainGlobals "MarkError" = some (some (.ref g_mark))) (b_mark : PySem.W.subIn K (.ref g_mark) (.type "BaseException") = some true) (t_mark : PySem.W.typeIn K (.ref g_mark) = some (.type "type")) (d_mark : PySem.W.hasDictIn K g_mark = true) (z_VE : PySem.W.nsIn K mainGlobals "ValueError" = some none)
    (hn_c : PySem.W.specialIn K (.builtin "object.__class__") "__get__" = some (some (.builtin "getset_descriptor.__get__"))) (ht_c : PySem.W.takesIn K (.builtin "object.__class__") = some true)
    (sm_bad : PySem.W.subIn K (.ref g_bad) (.ref g_mark) = some true) (hg_bad : PySem.W.findIn K (.ref g_bad) "__getattribute__" = some (some (.builtin "BaseException.__getattribute__"))) (hk_bad : PySem.W.findIn K (.ref g_bad) "__getattr__" = some none) (ha_bad : PySem.W.findIn K (.ref g_bad) "__class__" = some (some (.builtin "object.__class__"))) (hm_bad : PySem.W.mroIn K g_bad (.type "object") = some true) (kv_bad : PySem.W.kitOne K (.ref g_bad) (.type "ValueError") = some true) (kk_bad_bad : PySem.W.kitOne K (.ref g_bad) (.ref g_bad) = some true) (kk_bad_twice : PySem.W.kitOne K (.ref g_bad) (.ref g_twice) = some false) (kk_bad_empt : PySem.W.kitOne K (.ref g_bad) (.ref g_empt) = some false) (kk_bad_way : PySem.W.kitOne K (.ref g_bad) (.ref g_way) = some false) 
    (sm_twice : PySem.W.subIn K (.ref g_twice) (.ref g_mark) = some true) (hg_twice : PySem.W.findIn K (.ref g_twice) "__getattribute__" = some (some (.builtin "BaseException.__getattribute__"))) (hk_twice : PySem.W.findIn K (.ref g_twice) "__getattr__" = some none) (ha_twice : PySem.W.findIn K (.ref g_twice) "__class__" = some (some (.builtin "object.__class__"))) (hm_twice : PySem.W.mroIn K g_twice (.type "object") = some true) (kv_twice : PySem.W.kitOne K (.ref g_twice) (.type "ValueError") = some true) (kk_twice_bad : PySem.W.kitOne K (.ref g_twice) (.ref g_bad) = some false) (kk_twice_twice : PySem.W.kitOne K (.ref g_twice) (.ref g_twice) = some true) (kk_twice_empt : PySem.W.kitOne K (.ref g_twice) (.ref g_empt) = some false) (kk_twice_way : PySem.W.kitOne K (.ref g_twice) (.ref g_way) = some false) 
    (sm_empt : PySem.W.subIn K (.ref g_empt) (.ref g_mark) = some true) (hg_empt : PySem.W.findIn K (.ref g_empt) "__getattribute__" = some (some (.builtin "BaseException.__getattribute__"))) (hk_empt : PySem.W.findIn K (.ref g_empt) "__getattr__" = some none) (ha_empt : PySem.W.findIn K (.ref g_empt) "__class__" = some (some (.builtin "object.__class__"))) (hm_empt : PySem.W.mroIn K g_empt (.type "object") = some true) (kv_empt : PySem.W.kitOne K (.ref g_empt) (.type "ValueError") = some true) (kk_empt_bad : PySem.W.kitOne K (.ref g_empt) (.ref g_bad) = some false) (kk_empt_twice : PySem.W.kitOne K (.ref g_empt) (.ref g_twice) = some false) (kk_empt_empt : PySem.W.kitOne K (.ref g_empt) (.ref g_empt) = some true) (kk_empt_way : PySem.W.kitOne K (.ref g_empt) (.ref g_way) = some false) 
    (sm_way : PySem.W.subIn K (.ref g_way) (.ref g_mark) = some true) (hg_way : PySem.W.findIn K (.ref g_way) "__getattribute__" = some (some (.builtin "BaseException.__getattribute__"))) (hk_way : PySem.W.findIn K (.ref g_way) "__getattr__" = some none) (ha_way : PySem.W.findIn K (.ref g_way) "__class__" = some (some (.builtin "object.__class__"))) (hm_way : PySem.W.mroIn K g_way (.type "object") = some true) (kv_way : PySem.W.kitOne K (.ref g_way) (.type "ValueError") = some true) (kk_way_bad : PySem.W.kitOne K (.ref g_way) (.ref g_bad) = some false) (kk_way_twice : PySem.W.kitOne K (.ref g_way) (.ref g_twice) = some false) (kk_way_empt : PySem.W.kitOne K (.ref g_way) (.ref g_empt) = some false) (kk_way_way : PySem.W.kitOne K (.ref g_way) (.ref g_way) = some true) 
     :
    ∃ fd : FuncData, (∀ (s : Shared) (v : Value), BindsTo s fd ⟨[v], []⟩ [("_law_script", v)]) ∧ ∀ base : Heap, K.In base → base.Ns mainGlobals mg → FnOk P w K mg base (L2N.CX P w) 7 fa fd ["_law_script"] (spL K 1 F_law) := by
  have e := hfa.symm.trans (PySem.W.mg_of X G a24)
  cases e
  have T : Bi mg := ⟨PySem.W.mg_none_of X G z_len, PySem.W.mg_none_of X G z_isinstance, PySem.W.mg_none_of X G z_reversed, PySem.W.mg_none_of X G z_range, PySem.W.mg_none_of X G z_zip, PySem.W.mg_none_of X G z_bool, PySem.W.mg_none_of X G z_int, PySem.W.mg_none_of X G z_str, PySem.W.mg_none_of X G z_tuple, PySem.W.mg_none_of X G z_list, PySem.W.mg_none_of X G z_dict, PySem.W.mg_none_of X G z_set⟩
  have e_bad : ErrC K mg "BadPattern" ((erC g_bad g_twice g_empt g_way) .bad) := ⟨PySem.W.mg_of X G a_bad, x_bad, k_bad, b_bad, t_bad⟩
  have e_twice : ErrC K mg "TwiceNumbered" ((erC g_bad g_twice g_empt g_way) .twice) := ⟨PySem.W.mg_of X G a_twice, x_twice, k_twice, b_twice, t_twice⟩
  have e_empt : ErrC K mg "EmptyRound" ((erC g_bad g_twice g_empt g_way) .empt) := ⟨PySem.W.mg_of X G a_empt, x_empt, k_empt, b_empt, t_empt⟩
  have e_way : ErrC K mg "BadWay" ((erC g_bad g_twice g_empt g_way) .way) := ⟨PySem.W.mg_of X G a_way, x_way, k_way, b_way, t_way⟩
  have x_way : ∀ c, PySem.W.exmOne K (.ref ((erC g_bad g_twice g_empt g_way) c)) (.ref ((erC g_bad g_twice g_empt g_way) .way)) = some (decide (c = .way)) := fun c => PySem.W.exm_ref b_way d_way t_way (match c with | .bad => s_bad_way | .twice => s_twice_way | .empt => s_empt_way | .way => s_way_way)
  have y_all : ∀ c, ExcC K ((erC g_bad g_twice g_empt g_way) c) := fun c => (match c with | .bad => ⟨hg_bad, hk_bad, b_bad, d_bad, ha_bad, hn_c, ht_c, hm_bad⟩ | .twice => ⟨hg_twice, hk_twice, b_twice, d_twice, ha_twice, hn_c, ht_c, hm_twice⟩ | .empt => ⟨hg_empt, hk_empt, b_empt, d_empt, ha_empt, hn_c, ht_c, hm_empt⟩ | .way => ⟨hg_way, hk_way, b_way, d_way, ha_way, hn_c, ht_c, hm_way⟩)
  have kk_all : ∀ c d, PySem.W.kitOne K (.ref ((erC g_bad g_twice g_empt g_way) c)) (.ref ((erC g_bad g_twice g_empt g_way) d)) = some (decide (c = d)) := fun c d => (match c, d with | .bad, .bad => kk_bad_bad | .bad, .twice => kk_bad_twice | .bad, .empt => kk_bad_empt | .bad, .way => kk_bad_way | .twice, .bad => kk_twice_bad | .twice, .twice => kk_twice_twice | .twice, .empt => kk_twice_empt | .twice, .way => kk_twice_way | .empt, .bad => kk_empt_bad | .empt, .twice => kk_empt_twice | .empt, .empt => kk_empt_empt | .empt, .way => kk_empt_way | .way, .bad => kk_way_bad | .way, .twice => kk_way_twice | .way, .empt => kk_way_empt | .way, .way => kk_way_way)
  have kv_all : ∀ c, PySem.W.kitOne K (.ref ((erC g_bad g_twice g_empt g_way) c)) (.type "ValueError") = some true := fun c => (match c with | .bad => kv_bad | .twice => kv_twice | .empt => kv_empt | .way => kv_way)
  have xm_all : ∀ c, PySem.W.exmOne K (.ref ((erC g_bad g_twice g_empt g_way) c)) (.ref g_mark) = some true := fun c => PySem.W.exm_ref b_mark d_mark t_mark (match c with | .bad => sm_bad | .twice => sm_twice | .empt => sm_empt | .way => sm_way)
  have xi : ExI K mg (erC g_bad g_twice g_empt g_way) := ⟨y_all, kk_all, kv_all, PySem.W.mg_none_of X G z_VE, g_mark, PySem.W.mg_of X G a_mark, xm_all⟩
  have F0 := fun_mk (st := s_inner) l0 c0 k0
  have F1 := fun_mk (st := s_parts) l1 c1 k1
  have F2 := fun_mk (st := s_numbers) l2 c2 k2
  have F3 := fun_mk (st := s_takes_nothing) l3 c3 k3
  have F4 := fun_mk (st := s_is_number) l4 c4 k4
  have F5 := fun_mk (st := s_has_form) l5 c5 k5
  have F6 := fun_mk (st := s_checked) l6 c6 k6
  have F7 := fun_mk (st := s_first_state) l7 c7 k7
  have F8 := fun_mk (st := s_is_end) l8 c8 k8
  have F9 := fun_mk (st := s_takes) l9 c9 k9
  have F10 := fun_mk (st := s_onward) l10 c10 k10
  have F11 := fun_mk (st := s_number_at) l11 c11 k11
  have F12 := fun_mk (st := s_walk) l12 c12 k12
  have F13 := fun_mk (st := s__law_cell_at) l13 c13 k13
  have F14 := fun_mk (st := s__law_sign) l14 c14 k14
  have F15 := fun_mk (st := s__law_leaf) l15 c15 k15
  have F16 := fun_mk (st := s__law_two) l16 c16 k16
  have F17 := fun_mk (st := s__law_round) l17 c17 k17
  have F18 := fun_mk (st := s__law_made) l18 c18 k18
  have F19 := fun_mk (st := s__law_onward) l19 c19 k19
  have F20 := fun_mk (st := s__law_walked) l20 c20 k20
  have F21 := fun_mk (st := s__law_put_otherwise) l21 c21 k21
  have F22 := fun_mk (st := s__law_changed) l22 c22 k22
  have F23 := fun_mk (st := s__law_refused) l23 c23 k23
  have F24 := fun_mk (st := s_law) l24 c24 k24
  refine ⟨PySem.W.fnOf "law" "law" (defArgs s_law) (defBody s_law) (defScope s_law) .none kV24 dc24 pm24 an24 cd24 ct24, fun s v => .of_eq rfl, fun base _ _ => ?_⟩
  have qh_inner : FnD P w K mg base (erC g_bad g_twice g_empt g_way) 1 "inner" 1 F_inner := okH_inner F0 (PySem.W.mg_of X G a0) T 
  have q_inner : Fn P w K mg base (erC g_bad g_twice g_empt g_way) 1 "inner" 1 F_inner := ok_inner F0 (PySem.W.mg_of X G a0) T 
  have qh_parts : FnD P w K mg base (erC g_bad g_twice g_empt g_way) 2 "parts" 1 F_parts := okH_parts F1 (PySem.W.mg_of X G a1) T qh_inner
  have q_parts : Fn P w K mg base (erC g_bad g_twice g_empt g_way) 2 "parts" 1 F_parts := ok_parts F1 (PySem.W.mg_of X G a1) T q_inner
  have qh_numbers : FnD P w K mg base (erC g_bad g_twice g_empt g_way) 3 "numbers" 1 F_numbers := okH_numbers F2 (PySem.W.mg_of X G a2) T qh_parts
  have q_numbers : Fn P w K mg base (erC g_bad g_twice g_empt g_way) 3 "numbers" 1 F_numbers := ok_numbers F2 (PySem.W.mg_of X G a2) T q_parts
  have qh_takes_nothing : FnD P w K mg base (erC g_bad g_twice g_empt g_way) 3 "takes_nothing" 1 F_takes_nothing := okH_takes_nothing F3 (PySem.W.mg_of X G a3) T qh_parts
  have q_takes_nothing : Fn P w K mg base (erC g_bad g_twice g_empt g_way) 3 "takes_nothing" 1 F_takes_nothing := ok_takes_nothing F3 (PySem.W.mg_of X G a3) T q_parts
  have qh_is_number : FnD P w K mg base (erC g_bad g_twice g_empt g_way) 1 "is_number" 1 F_is_number := okH_is_number F4 (PySem.W.mg_of X G a4) T 
  have q_is_number : Fn P w K mg base (erC g_bad g_twice g_empt g_way) 1 "is_number" 1 F_is_number := ok_is_number F4 (PySem.W.mg_of X G a4) T 
  have qh_has_form : FnD P w K mg base (erC g_bad g_twice g_empt g_way) 2 "has_form" 1 F_has_form := okH_has_form F5 (PySem.W.mg_of X G a5) T qh_is_number
  have q_has_form : Fn P w K mg base (erC g_bad g_twice g_empt g_way) 2 "has_form" 1 F_has_form := ok_has_form F5 (PySem.W.mg_of X G a5) T q_is_number
  have qh_checked : FnD P w K mg base (erC g_bad g_twice g_empt g_way) 4 "checked" 1 F_checked := okH_checked F6 (PySem.W.mg_of X G a6) T qh_has_form qh_inner qh_numbers qh_parts qh_takes_nothing e_bad e_empt e_twice
  have q_checked : Fn P w K mg base (erC g_bad g_twice g_empt g_way) 4 "checked" 1 F_checked := ok_checked F6 (PySem.W.mg_of X G a6) T q_has_form q_inner q_numbers q_parts q_takes_nothing e_bad e_empt e_twice
  have qh_first_state : FnD P w K mg base (erC g_bad g_twice g_empt g_way) 1 "first_state" 1 F_first_state := okH_first_state F7 (PySem.W.mg_of X G a7) T 
  have q_first_state : Fn P w K mg base (erC g_bad g_twice g_empt g_way) 1 "first_state" 1 F_first_state := ok_first_state F7 (PySem.W.mg_of X G a7) T 
  have qh_is_end : FnD P w K mg base (erC g_bad g_twice g_empt g_way) 1 "is_end" 2 F_is_end := okH_is_end F8 (PySem.W.mg_of X G a8) T 
  have q_is_end : Fn P w K mg base (erC g_bad g_twice g_empt g_way) 1 "is_end" 2 F_is_end := ok_is_end F8 (PySem.W.mg_of X G a8) T 
  have qh_takes : FnD P w K mg base (erC g_bad g_twice g_empt g_way) 1 "takes" 3 F_takes := okH_takes F9 (PySem.W.mg_of X G a9) T 
  have q_takes : Fn P w K mg base (erC g_bad g_twice g_empt g_way) 1 "takes" 3 F_takes := ok_takes F9 (PySem.W.mg_of X G a9) T 
  have qh_onward : FnD P w K mg base (erC g_bad g_twice g_empt g_way) 2 "onward" 2 F_onward := okH_onward F10 (PySem.W.mg_of X G a10) T qh_takes
  have q_onward : Fn P w K mg base (erC g_bad g_twice g_empt g_way) 2 "onward" 2 F_onward := ok_onward F10 (PySem.W.mg_of X G a10) T q_takes
  have qh_number_at : FnD P w K mg base (erC g_bad g_twice g_empt g_way) 1 "number_at" 2 F_number_at := okH_number_at F11 (PySem.W.mg_of X G a11) T e_way
  have q_number_at : Fn P w K mg base (erC g_bad g_twice g_empt g_way) 1 "number_at" 2 F_number_at := ok_number_at F11 (PySem.W.mg_of X G a11) T e_way
  have qh_walk : FnD P w K mg base (erC g_bad g_twice g_empt g_way) 5 "walk" 3 F_walk := okH_walk F12 (PySem.W.mg_of X G a12) T qh_checked qh_first_state qh_is_end qh_number_at qh_onward e_way
  have q_walk : Fn P w K mg base (erC g_bad g_twice g_empt g_way) 5 "walk" 3 F_walk := ok_walk F12 (PySem.W.mg_of X G a12) T q_checked q_first_state q_is_end q_number_at q_onward e_way
  have q__law_cell_at : Fn P w K mg base (erC g_bad g_twice g_empt g_way) 1 "_law_cell_at" 2 F__law_cell_at := ok__law_cell_at F13 (PySem.W.mg_of X G a13) T 
  have q__law_sign : Fn P w K mg base (erC g_bad g_twice g_empt g_way) 1 "_law_sign" 1 F__law_sign := ok__law_sign F14 (PySem.W.mg_of X G a14) T 
  have q__law_leaf : Fn P w K mg base (erC g_bad g_twice g_empt g_way) 2 "_law_leaf" 2 F__law_leaf := ok__law_leaf F15 (PySem.W.mg_of X G a15) T q__law_sign
  have q__law_two : Fn P w K mg base (erC g_bad g_twice g_empt g_way) 1 "_law_two" 3 F__law_two := ok__law_two F16 (PySem.W.mg_of X G a16) T 
  have q__law_round : Fn P w K mg base (erC g_bad g_twice g_empt g_way) 2 "_law_round" 3 F__law_round := ok__law_round F17 (PySem.W.mg_of X G a17) T q__law_sign
  have q__law_made : Fn P w K mg base (erC g_bad g_twice g_empt g_way) 3 "_law_made" 2 F__law_made := ok__law_made F18 (PySem.W.mg_of X G a18) T q__law_leaf q__law_round q__law_two
  have q__law_onward : Fn P w K mg base (erC g_bad g_twice g_empt g_way) 1 "_law_onward" 2 F__law_onward := ok__law_onward F19 (PySem.W.mg_of X G a19) T 
  have q__law_walked : Fn P w K mg base (erC g_bad g_twice g_empt g_way) 2 "_law_walked" 3 F__law_walked := ok__law_walked F20 (PySem.W.mg_of X G a20) T q__law_onward
  have q__law_put_otherwise : Fn P w K mg base (erC g_bad g_twice g_empt g_way) 1 "_law_put_otherwise" 2 F__law_put_otherwise := ok__law_put_otherwise F21 (PySem.W.mg_of X G a21) T 
  have q__law_changed : Fn P w K mg base (erC g_bad g_twice g_empt g_way) 2 "_law_changed" 3 F__law_changed := ok__law_changed F22 (PySem.W.mg_of X G a22) T q__law_sign
  have qh__law_refused : FnD P w K mg base (erC g_bad g_twice g_empt g_way) 6 "_law_refused" 3 F__law_refused := okH__law_refused F23 (PySem.W.mg_of X G a23) T qh_walk e_bad e_empt e_twice xi
  exact (fo_law F24 T q__law_cell_at q__law_changed q__law_made q__law_put_otherwise q__law_walked q_walk qh__law_refused e_way x_way).imp spL_spD
end GM

namespace GM
open PySem PySem.Spec L2
/-! ### inner, parts -/
theorem inner_eq (p : Pat) : F_inner [enc p] = .ok (.own ((kids p).map enc)) := by
  cases p <;> rfl
theorem parts_loop (z : Sl) : ∀ (n : Nat) (w fnd : List Pat) (a b : Sl), (w.flatMap Pat.parts).length = n → fnd.length + n ≤ 1000000 →
    ∃ a' b', gWhile (tTruV 2) b_parts_0 [z, .own (fnd.map enc), .own (stk enc w), a, b] = .ok .nx [z, .own ((fnd ++ w.flatMap Pat.parts).map enc), .own [], a', b'] := by
  intro n
  induction n using Nat.strongRecOn with
  | _ n ih =>
    intro w fnd a b hn hl
    have hz := szl
    cases w with
    | nil =>
      refine ⟨a, b, ?_⟩
      rw [gWhile_unfold]
      simp
    | cons p w =>
      have hp := parts_kids p
      have hlen : ((p :: w).flatMap Pat.parts).length = 1 + ((kids p ++ w).flatMap Pat.parts).length := by
        simp [hp]
        omega
      have e : fnd ++ (p :: w).flatMap Pat.parts = (fnd ++ [p]) ++ (kids p ++ w).flatMap Pat.parts := by
        simp [hp]
      have hw : ∀ l : List Pat, l.length ≤ (l.flatMap Pat.parts).length := by
        intro l
        induction l with
        | nil => simp
        | cons q l ih =>
          have := parts_pos q
          rw [List.flatMap_cons, List.length_append, List.length_cons]
          omega
      have hk := hw (kids p ++ w)
      have hk1 : (kids p ++ w).length = (kids p).length + w.length := by simp
      obtain ⟨a', b', h⟩ := ih ((kids p ++ w).flatMap Pat.parts).length (by omega) (kids p ++ w) (fnd ++ [p]) (.dat (enc p)) (.own ((kids p).map enc).reverse) rfl (by rw [List.length_append, List.length_singleton]; omega)
      refine ⟨a', b', ?_⟩
      rw [e, ← h, gWhile_unfold]
      have c1 : fnd.length < sizeLine := by omega
      have c2 : w.length + (kids p).length ≤ sizeLine := by omega
      simp [b_parts_0, inner_eq, c1, c2, stk_apps]
theorem parts_eq (p : Pat) (h : p.parts.length ≤ 1000000) : F_parts [enc p] = .ok (.own (p.parts.map enc)) := by
  obtain ⟨a', b', e⟩ := parts_loop (.dat (enc p)) p.parts.length [p] [] .emp .emp (by simp) (by simpa using h)
  simp only [stk_one, List.map_nil, List.nil_append] at e
  unfold F_parts runF g_parts
  have e2 : stk enc [p] = [enc p] := rfl
  rw [e2] at e
  simp [e]
/-! ### takes_nothing -/
theorem nul_loop (z : Sl) : ∀ (p : Pat) (ds : List PyData) (t : List Bool) (a b c d : Sl), t.length + p.parts.length ≤ 1000000 →
    ∃ a' b' c' d', forL (gtN 2) b_takes_nothing_0 (((p.parts.map enc).reverse) ++ ds) [z, .own (stk PyData.bool t), a, b, c, d] = forL (gtN 2) b_takes_nothing_0 ds [z, .own (stk PyData.bool (p.nul :: t)), a', b', c', d'] := by
  have hz := szl
  intro p
  induction p with
  | sign s =>
    intro ds t a b c d hl
    have cz : t.length < sizeLine := by simp [Pat.parts] at hl; omega
    refine ⟨.dat (enc (.sign s)), .dat (.str "sign"), c, d, ?_⟩
    · simp [Pat.parts, enc, b_takes_nothing_0, cz, Pat.nul]
      rw [stk_app]
  | any =>
    intro ds t a b c d hl
    have cz : t.length < sizeLine := by simp [Pat.parts] at hl; omega
    refine ⟨.dat (enc .any), .dat (.str "any"), c, d, ?_⟩
    · simp [Pat.parts, enc, b_takes_nothing_0, cz, Pat.nul]
      rw [stk_app]
  | non =>
    intro ds t a b c d hl
    have cz : t.length < sizeLine := by simp [Pat.parts] at hl; omega
    refine ⟨.dat (enc .non), .dat (.str "none"), c, d, ?_⟩
    · simp [Pat.parts, enc, b_takes_nothing_0, cz, Pat.nul]
      rw [stk_app]
  | row p q ihp ihq =>
    intro ds t a b c d hl
    have hl' : t.length + (1 + (p.parts.length + q.parts.length)) ≤ 1000000 := by simpa [Pat.parts, Nat.add_comm] using hl
    have hp := parts_pos p
    have e : ((Pat.row p q).parts.map enc).reverse ++ ds = (q.parts.map enc).reverse ++ ((p.parts.map enc).reverse ++ (enc (.row p q) :: ds)) := by simp [Pat.parts]
    obtain ⟨a1, b1, c1, d1, e1⟩ := ihq ((p.parts.map enc).reverse ++ (enc (.row p q) :: ds)) t a b c d (by omega)
    obtain ⟨a2, b2, c2, d2, e2⟩ := ihp (enc (.row p q) :: ds) (q.nul :: t) a1 b1 c1 d1 (by simp; omega)
    rw [e, e1, e2]
    have cz : t.length < sizeLine := by omega
    refine ⟨.dat (enc (.row p q)), .dat (.str "row"), .dat (.bool p.nul), .dat (.bool q.nul), ?_⟩
    · cases hpn : p.nul <;> cases hqn : q.nul <;> (simp [enc, b_takes_nothing_0, cz, Pat.nul, hpn, hqn]; rw [stk_app])
  | or p q ihp ihq =>
    intro ds t a b c d hl
    have hl' : t.length + (1 + (p.parts.length + q.parts.length)) ≤ 1000000 := by simpa [Pat.parts, Nat.add_comm] using hl
    have hp := parts_pos p
    have e : ((Pat.or p q).parts.map enc).reverse ++ ds = (q.parts.map enc).reverse ++ ((p.parts.map enc).reverse ++ (enc (.or p q) :: ds)) := by simp [Pat.parts]
    obtain ⟨a1, b1, c1, d1, e1⟩ := ihq ((p.parts.map enc).reverse ++ (enc (.or p q) :: ds)) t a b c d (by omega)
    obtain ⟨a2, b2, c2, d2, e2⟩ := ihp (enc (.or p q) :: ds) (q.nul :: t) a1 b1 c1 d1 (by simp; omega)
    rw [e, e1, e2]
    have cz : t.length < sizeLine := by omega
    refine ⟨.dat (enc (.or p q)), .dat (.str "or"), .dat (.bool p.nul), .dat (.bool q.nul), ?_⟩
    · cases hpn : p.nul <;> cases hqn : q.nul <;> (simp [enc, b_takes_nothing_0, cz, Pat.nul, hpn, hqn]; rw [stk_app])
  | more p ih =>
    intro ds t a b c d hl
    have hl' : t.length + (1 + p.parts.length) ≤ 1000000 := by simpa [Pat.parts, Nat.add_comm] using hl
    have e : ((Pat.more p).parts.map enc).reverse ++ ds = (p.parts.map enc).reverse ++ (enc (.more p) :: ds) := by simp [Pat.parts]
    obtain ⟨a1, b1, c1, d1, e1⟩ := ih (enc (.more p) :: ds) t a b c d (by omega)
    rw [e, e1]
    have cz : t.length < sizeLine := by omega
    refine ⟨.dat (enc (.more p)), .dat (.str "more"), c1, d1, ?_⟩
    · simp [enc, b_takes_nothing_0, cz, Pat.nul]
      rw [stk_app]
  | less p ih =>
    intro ds t a b c d hl
    have hl' : t.length + (1 + p.parts.length) ≤ 1000000 := by simpa [Pat.parts, Nat.add_comm] using hl
    have e : ((Pat.less p).parts.map enc).reverse ++ ds = (p.parts.map enc).reverse ++ (enc (.less p) :: ds) := by simp [Pat.parts]
    obtain ⟨a1, b1, c1, d1, e1⟩ := ih (enc (.less p) :: ds) t a b c d (by omega)
    rw [e, e1]
    have cz : t.length < sizeLine := by omega
    refine ⟨.dat (enc (.less p)), .dat (.str "less"), c1, d1, ?_⟩
    · simp [enc, b_takes_nothing_0, cz, Pat.nul]
      rw [stk_app]
  | group n p ih =>
    intro ds t a b c d hl
    have hl' : t.length + (1 + p.parts.length) ≤ 1000000 := by simpa [Pat.parts, Nat.add_comm] using hl
    have e : ((Pat.group n p).parts.map enc).reverse ++ ds = (p.parts.map enc).reverse ++ (enc (.group n p) :: ds) := by simp [Pat.parts]
    obtain ⟨a1, b1, c1, d1, e1⟩ := ih (enc (.group n p) :: ds) t a b c d (by omega)
    rw [e, e1]
    have cz : t.length < sizeLine := by omega
    refine ⟨.dat (enc (.group n p)), .dat (.str "group"), c1, d1, ?_⟩
    simp [enc, b_takes_nothing_0, Pat.nul]
theorem nul_eq (p : Pat) (h : p.parts.length ≤ 1000000) : F_takes_nothing [enc p] = .ok (.dat (.bool p.nul)) := by
  obtain ⟨a', b', c', d', e⟩ := nul_loop (.dat (enc p)) p [] [] .emp .emp .emp .emp (by simpa using h)
  unfold F_takes_nothing runF g_takes_nothing
  rw [List.append_nil, stk_nil] at e
  have e2 : stk PyData.bool [p.nul] = [PyData.bool p.nul] := rfl
  simp [parts_eq p h, e, e2]
/-! ### numbers -/
def num : Pat → Option Int
  | .group n _ => some n
  | _ => none
theorem nums_loop (gt : PyData → En → Option En) (i : Nat) (hgt : gt = gtN i) (rw' : En) (hi : i < rw'.length) (he : rw'[i]? = some .emp) : ∀ ps : List Pat, lcL gt (op2 fEq (dIxV i (dC (.int 0))) (dC (.str "group"))) (dIxV i (dC (.int 1))) [i] rw' (ps.map enc) = some ((ps.filterMap num).map PyData.int) := by
  subst hgt
  have hw : ∀ x : Sl, wipeE (rw'.set i x) [i] = rw' := fun x => by
    show (rw'.set i x).set i .emp = rw'
    rw [List.set_set]
    exact List.ext_getElem? fun j => by
      by_cases hj : j = i
      · subst hj
        rw [List.getElem?_set_self hi, he]
      · rw [List.getElem?_set_ne (Ne.symm hj)]
  intro ps
  induction ps with
  | nil => rfl
  | cons p ps ih =>
    have hs : ∀ x : Sl, (rw'.set i x)[i]? = some x := fun x => List.getElem?_set_self hi
    cases p <;> (rw [List.map_cons, lcL]; simp [enc, hs, hw, ih, num, List.filterMap_cons])
theorem numbers_eq (p : Pat) (h : p.parts.length ≤ 1000000) : F_numbers [enc p] = .ok (.own ((p.parts.filterMap num).map PyData.int)) := by
  unfold F_numbers runF g_numbers
  have hz := szl
  have c : p.parts.length ≤ 16777216 := by omega
  have e := nums_loop (gtN 1) 1 rfl [.dat (enc p), .emp] (by simp) rfl p.parts
  have e2 : wipeE [Sl.dat (enc p), Sl.emp] [1] = [.dat (enc p), .emp] := rfl
  simp [parts_eq p h, dLc, e2, e, Sl.mine, hz, c]
/-! ### checked -/
/-- not refused, but for the numbers -/
def Pat.fine : Pat → Bool
  | .sign s => decide (s.length = 1)
  | .row p q => p.fine && q.fine
  | .or p q => p.fine && q.fine
  | .more p => !p.nul && p.fine
  | .less p => !p.nul && p.fine
  | .group n p => decide (1 ≤ n) && p.fine
  | _ => true
theorem is_number_ok (n : Int) (h : 1 ≤ n) : F_is_number [.int n] = .ok (.dat (.bool true)) := by
  unfold F_is_number runF g_is_number
  simp [boolD, h]
theorem form_ok (p : Pat) (h : p.fine = true) : F_has_form [enc p] = .ok (.dat (.bool true)) := by
  unfold F_has_form runF g_has_form
  have hz := szl
  cases p with
  | sign s =>
    simp [Pat.fine] at h
    simp [enc, boolD, hz, h]
  | group n p =>
    simp [Pat.fine] at h
    simp [enc, boolD, is_number_ok n h.1]
  | _ => simp [enc, boolD]
theorem kids_fine (p : Pat) (h : p.fine = true) : ∀ q ∈ kids p, q.fine = true := by
  intro q hq
  cases p <;> simp [kids] at hq <;> simp [Pat.fine] at h
  · rcases hq with rfl | rfl
    · exact h.1
    · exact h.2
  · rcases hq with rfl | rfl
    · exact h.1
    · exact h.2
  · subst hq; exact h.2
  · subst hq; exact h.2
  · subst hq; exact h.2
theorem stk_kids (w k : List Pat) : stk enc w ++ k.map enc = stk enc (k.reverse ++ w) := by
  simp [stk]
theorem fm_rev (k : List Pat) : (k.reverse.flatMap Pat.parts).length = (k.flatMap Pat.parts).length := by
  induction k with
  | nil => rfl
  | cons a k ih => simp at ih ⊢; omega
theorem len_fm : ∀ l : List Pat, l.length ≤ (l.flatMap Pat.parts).length := by
  intro l
  induction l with
  | nil => simp
  | cons q l ih =>
    have := parts_pos q
    rw [List.flatMap_cons, List.length_append, List.length_cons]
    omega
theorem chk_loop (z c : Sl) : ∀ (n : Nat) (w : List Pat) (a : Sl), (w.flatMap Pat.parts).length = n → n ≤ 1000000 → (∀ p ∈ w, p.fine = true) →
    ∃ a', gWhile (tTruV 1) b_checked_0 [z, .own (stk enc w), a, c] = .ok .nx [z, .own [], a', c] := by
  intro n
  induction n using Nat.strongRecOn with
  | _ n ih =>
    intro w a hn hl hf
    have hz := szl
    cases w with
    | nil =>
      refine ⟨a, ?_⟩
      rw [gWhile_unfold]
      simp
    | cons p w =>
      have hp := parts_kids p
      have hlen : ((p :: w).flatMap Pat.parts).length = 1 + (((kids p).reverse ++ w).flatMap Pat.parts).length := by
        rw [List.flatMap_cons, hp, List.flatMap_append, List.length_append, List.length_append, fm_rev]
        simp
        omega
      have hk := len_fm ((kids p).reverse ++ w)
      have hk1 : ((kids p).reverse ++ w).length = (kids p).length + w.length := by simp
      obtain ⟨a', h⟩ := ih (((kids p).reverse ++ w).flatMap Pat.parts).length (by omega) ((kids p).reverse ++ w) (.dat (enc p)) rfl (by omega) (fun q hq => by
        rcases List.mem_append.mp hq with hq | hq
        · exact kids_fine p (hf p List.mem_cons_self) q (List.mem_reverse.mp hq)
        · exact hf q (List.mem_cons_of_mem _ hq))
      refine ⟨a', ?_⟩
      rw [← h, gWhile_unfold]
      have c2 : w.length + (kids p).length ≤ 16777216 := by omega
      have hfo := form_ok p (hf p List.mem_cons_self)
      simp [b_checked_0, inner_eq, hfo, hz, c2, stk_kids]
theorem parts_fine : ∀ p : Pat, p.fine = true → ∀ q ∈ p.parts, q.fine = true ∧ q.parts.length ≤ p.parts.length := by
  intro p
  induction p with
  | row p1 p2 ih1 ih2 =>
    intro h q hq
    have h' := h
    simp [Pat.fine] at h'
    simp [Pat.parts] at hq
    rcases hq with rfl | hq | hq
    · exact ⟨h, Nat.le_refl _⟩
    · have := ih1 h'.1 q hq; exact ⟨this.1, by simp [Pat.parts]; omega⟩
    · have := ih2 h'.2 q hq; exact ⟨this.1, by simp [Pat.parts]; omega⟩
  | or p1 p2 ih1 ih2 =>
    intro h q hq
    have h' := h
    simp [Pat.fine] at h'
    simp [Pat.parts] at hq
    rcases hq with rfl | hq | hq
    · exact ⟨h, Nat.le_refl _⟩
    · have := ih1 h'.1 q hq; exact ⟨this.1, by simp [Pat.parts]; omega⟩
    · have := ih2 h'.2 q hq; exact ⟨this.1, by simp [Pat.parts]; omega⟩
  | more p ih =>
    intro h q hq
    have h' := h
    simp [Pat.fine] at h'
    simp [Pat.parts] at hq
    rcases hq with rfl | hq
    · exact ⟨h, Nat.le_refl _⟩
    · have := ih h'.2 q hq; exact ⟨this.1, by simp [Pat.parts]; omega⟩
  | less p ih =>
    intro h q hq
    have h' := h
    simp [Pat.fine] at h'
    simp [Pat.parts] at hq
    rcases hq with rfl | hq
    · exact ⟨h, Nat.le_refl _⟩
    · have := ih h'.2 q hq; exact ⟨this.1, by simp [Pat.parts]; omega⟩
  | group n p ih =>
    intro h q hq
    have h' := h
    simp [Pat.fine] at h'
    simp [Pat.parts] at hq
    rcases hq with rfl | hq
    · exact ⟨h, Nat.le_refl _⟩
    · have := ih h'.2 q hq; exact ⟨this.1, by simp [Pat.parts]; omega⟩
  | _ =>
    intro h q hq
    simp [Pat.parts] at hq
    subst hq
    exact ⟨h, Nat.le_refl _⟩
theorem chk2_loop (z a c : Sl) : ∀ (ps : List Pat) (b : Sl), (∀ q ∈ ps, q.fine = true ∧ q.parts.length ≤ 1000000) → ∃ b', forL (gtN 2) b_checked_1 (ps.map enc) [z, a, b, c] = .ok .nx [z, a, b', c] := by
  intro ps
  induction ps with
  | nil => intro b _; exact ⟨b, rfl⟩
  | cons p ps ih =>
    intro b h
    obtain ⟨b', h1⟩ := ih (.dat (enc p)) fun q hq => h q (List.mem_cons_of_mem _ hq)
    refine ⟨b', ?_⟩
    rw [← h1]
    obtain ⟨h2, h3⟩ := h p List.mem_cons_self
    cases p with
    | more q =>
      simp [Pat.fine] at h2
      simp [Pat.parts] at h3
      have hn := nul_eq q (by omega)
      rw [h2.1] at hn
      simp [b_checked_1, enc, hn]
    | less q =>
      simp [Pat.fine] at h2
      simp [Pat.parts] at h3
      have hn := nul_eq q (by omega)
      rw [h2.1] at hn
      simp [b_checked_1, enc, hn]
    | _ => simp [b_checked_1, enc]
def nums (p : Pat) : List Int := p.parts.filterMap num
theorem oss_len (l : List Int) (h : l.Nodup) : PySem.W.ossOf l = l := by
  have : ∀ (l ks : List Int), (ks ++ l).Nodup → l.foldl PyProof.Rows.step_dedup ks = ks ++ l := by
    intro l
    induction l with
    | nil => intro ks _; simp
    | cons a l ih =>
      intro ks hn
      have ha : ¬ a ∈ ks := fun m => by
        have := List.nodup_append.mp hn
        exact this.2.2 a m a List.mem_cons_self rfl
      rw [List.foldl_cons, PySem.W.oss_step, if_neg ha, ih (ks ++ [a]) (by rw [List.append_assoc]; exact hn), List.append_assoc]
      rfl
  exact this l [] (by simpa using h)
theorem checked_ok (p : Pat) (hf : p.fine = true) (hl : p.parts.length ≤ 4000) (hn : (nums p).Nodup) : F_checked [enc p] = .ok (.dat (enc p)) := by
  obtain ⟨a', e1⟩ := chk_loop (.dat (enc p)) .emp p.parts.length [p] .emp (by simp) (by omega) (by simp [hf])
  obtain ⟨b', e2⟩ := chk2_loop (.dat (enc p)) (.own []) (.dat (.list ((nums p).map PyData.int))) p.parts a' (fun q hq => by
    have := parts_fine p hf q hq
    exact ⟨this.1, by omega⟩)
  have e3 : stk enc [p] = [enc p] := rfl
  rw [e3] at e1
  have hnl : (nums p).length ≤ 4000 := Nat.le_trans (List.length_filterMap_le _ _) hl
  have e4 := numbers_eq p (by omega)
  have e5 : F_numbers [enc p] = .ok (.own ((nums p).map PyData.int)) := e4
  unfold F_checked runF g_checked
  simp [e1, e5, hnl, oss_len _ hn, parts_eq p (by omega), e2]
/-! ### cells, signs -/
theorem cell_at_ok (ns : List Int) (k : Nat) : ∃ i, F__law_cell_at [intL ns, .int k] = .ok (.dat (.int i)) := by
  unfold F__law_cell_at runF g__law_cell_at
  by_cases h : k < ns.length
  · have e : atI (ns.map PyData.int) (k : Int) = some (.int ns[k]) := atI_nat (by simp [h])
    exact ⟨ns[k], by simp [intL, h, e]⟩
  · exact ⟨0, by simp [intL, h]⟩
theorem sign_ok (c : Int) : ∃ x : Nat, x < 128 ∧ F__law_sign [.int c] = .ok (.dat (.str ⟨#[x]⟩)) := by
  obtain ⟨x, hm, hx⟩ := atI_mod signs.cps.toList 95 c signs_len (by decide)
  have hz : signs.length ≤ sizeLine := by rw [signs_size, szl]; decide
  have hx' : atI signs.cps.toList (c % 95) = some x := hx
  have hlt : x < 128 := of_decide_eq_true (List.all_eq_true.mp signs_ok x hm)
  unfold F__law_sign runF g__law_sign
  refine ⟨x, hlt, ?_⟩
  simp [signs_add, -fAdd_s, hz, hx']
theorem sign_good {x : Nat} (h : x < 128) : PyData.strOk ⟨#[x]⟩ = true := by
  simp [PyData.strOk]
  omega
/-! ### states -/
inductive Th where
  | p (q : Pat) | c (n : Int)
def encT : Th → PyData
  | .p q => enc q
  | .c n => .tuple [.str "close", .int n]
def st (x : List Th × Nat) : PyData := .tuple [.tuple (x.1.map encT), .int x.2]
def chr (t : Str) (k : Nat) : Option Str := (t.cps.toList[k]?).map fun c => ⟨#[c]⟩
def onw (t : Str) : List Th → Nat → List (List Th × Nat)
  | [], _ => []
  | .p (.sign s) :: r, k => if chr t k = some s then [(r, k + 1)] else []
  | .p .any :: r, k => if k < t.length then [(r, k + 1)] else []
  | .p .non :: r, k => [(r, k)]
  | .p (.row a b) :: r, k => [(.p a :: .p b :: r, k)]
  | .p (.or a b) :: r, k => [(.p a :: r, k), (.p b :: r, k)]
  | .p (.more a) :: r, k => [(.p a :: .p (.more a) :: r, k), (r, k)]
  | .p (.less a) :: r, k => [(r, k), (.p a :: .p (.less a) :: r, k)]
  | .p (.group n a) :: r, k => [(.p a :: .c n :: r, k)]
  | .c _ :: r, k => [(r, k)]
@[simp] theorem cutL_tail {α : Type} (x : α) (l : List α) : cutL (x :: l) (some 1) none = l := by
  unfold cutL
  rw [show HT.sIx (x :: l).length 0 (some 1) = 1 from by rw [show (1 : Int) = ((1 : Nat) : Int) from rfl, HT.sIx_nat]; simp]
  simp [HT.sIx]
@[simp] theorem len1_ne (n : Nat) : ((n : Int) + 1 = 0) = False := eq_false (by omega)
theorem first_state_ok (p : Pat) : F_first_state [enc p] = .ok (.dat (st ([.p p], 0))) := by
  unfold F_first_state runF g_first_state
  simp [st, encT]
theorem is_end_ok (r : List Th) (k : Nat) (t : Str) (ht : t.length ≤ 1000000) : F_is_end [st (r, k), .str t] = .ok (.dat (.bool (decide (r = [] ∧ k = t.length)))) := by
  unfold F_is_end runF g_is_end
  have hz := szl
  have ht' : t.length ≤ 16777216 := by omega
  cases r with
  | nil => simp [st, boolD, hz, ht']; omega
  | cons x r => simp [st, boolD, hz, ht']
theorem chr_lt {t : Str} {k : Nat} (h : k < t.length) : ∃ c, t.cps.toList[k]? = some c ∧ chr t k = some ⟨#[c]⟩ := by
  have h' : k < t.cps.toList.length := by simpa [Str.length] using h
  exact ⟨t.cps.toList[k], List.getElem?_eq_getElem h', by rw [chr, List.getElem?_eq_getElem h']; rfl⟩
theorem chr_ge {t : Str} {k : Nat} (h : t.length ≤ k) : chr t k = none := by
  have h' : t.cps.toList.length ≤ k := by simpa [Str.length] using h
  rw [chr, List.getElem?_eq_none h']; rfl
theorem takes_sign (s : Str) (t : Str) (k : Nat) (ht : t.length ≤ 1000000) : F_takes [enc (.sign s), .str t, .int k] = .ok (.dat (.bool (decide (chr t k = some s)))) := by
  unfold F_takes runF g_takes
  have hz := szl
  have ht' : t.length ≤ 16777216 := by omega
  by_cases h : k < t.length
  · obtain ⟨c, h1, h2⟩ := chr_lt h
    have h3 : atI t.cps.toList (k : Int) = some c := atI_nat h1
    have h4 : ¬ ((t.length : Nat) : Int) ≤ k := by omega
    simp [enc, boolD, hz, ht', h2, h3, h4]
  · have h4 : ((t.length : Nat) : Int) ≤ k := by omega
    simp [enc, boolD, hz, ht', chr_ge (Nat.not_lt.mp h), h4]
theorem takes_any (t : Str) (k : Nat) (ht : t.length ≤ 1000000) : F_takes [enc .any, .str t, .int k] = .ok (.dat (.bool (decide (k < t.length)))) := by
  unfold F_takes runF g_takes
  have hz := szl
  have ht' : t.length ≤ 16777216 := by omega
  by_cases h : k < t.length
  · have h4 : ¬ ((t.length : Nat) : Int) ≤ k := by omega
    simp [enc, boolD, hz, ht', h, h4]
  · have h4 : ((t.length : Nat) : Int) ≤ k := by omega
    simp [enc, boolD, hz, ht', h, h4]
theorem onward_ok (r : List Th) (k : Nat) (t : Str) (ht : t.length ≤ 1000000) (hr : r.length ≤ 16000000) : F_onward [st (r, k), .str t] = .ok (.own ((onw t r k).map st)) := by
  unfold F_onward runF g_onward
  have hz := szl
  have ht' : t.length ≤ 16777216 := by omega
  match r, hr with
  | [], _ => simp [st, onw]
  | .c n :: r, hr =>
    have hl : r.length ≤ 16777000 := by simp at hr; omega
    simp [st, onw, encT]
  | .p q :: r, hr =>
    have hl : r.length + 1 ≤ 16000000 := by simpa using hr
    have hl1 : 1 + r.length ≤ 16777216 := by omega
    have hl2 : 2 + r.length ≤ 16777216 := by omega
    cases q with
    | sign s =>
      have h1 := takes_sign s t k ht
      by_cases h : chr t k = some s
      · simp [h] at h1
        simp [enc] at h1
        simp [st, onw, encT, enc, h1, h]
      · simp [h] at h1
        simp [enc] at h1
        simp [st, onw, encT, enc, h1, h]
    | any =>
      have h1 := takes_any t k ht
      by_cases h : k < t.length
      · simp [h] at h1
        simp [enc] at h1
        simp [st, onw, encT, enc, h1, h]
      · simp [h] at h1
        simp [enc] at h1
        simp [st, onw, encT, enc, h1, h]
    | non => simp [st, onw, encT, enc, hz, hl1, hl2]
    | row a b => simp [st, onw, encT, enc, hz, hl1, hl2]
    | or a b => simp [st, onw, encT, enc, hz, hl1, hl2]
    | more a => simp [st, onw, encT, enc, hz, hl1, hl2]
    | less a => simp [st, onw, encT, enc, hz, hl1, hl2]
    | group n a => simp [st, onw, encT, enc, hz, hl1, hl2]
end GM

namespace GM
open PySem PySem.Spec L2
/-! ### walks -/
structure Closed (P : Th → Prop) : Prop where
  row : ∀ a b, P (.p (.row a b)) → P (.p a) ∧ P (.p b)
  or : ∀ a b, P (.p (.or a b)) → P (.p a) ∧ P (.p b)
  more : ∀ a, P (.p (.more a)) → P (.p a)
  less : ∀ a, P (.p (.less a)) → P (.p a)
  group : ∀ n a, P (.p (.group n a)) → P (.p a) ∧ P (.c n)
def wp : Pat → Nat
  | .row p q => 1 + wp p + wp q
  | .or p q => 1 + wp p + wp q
  | .more p => 1 + wp p
  | .less p => 1 + wp p
  | .group _ p => 2 + wp p
  | _ => 1
def wth : Th → Nat
  | .p q => wp q
  | .c _ => 1
theorem wp_pos : ∀ p : Pat, 1 ≤ wp p := by
  intro p
  cases p <;> simp [wp] <;> omega
def wst (l : List Th) : Nat := (l.map wth).sum
@[simp] theorem wst_nil : wst [] = 0 := rfl
@[simp] theorem wst_cons (x : Th) (l : List Th) : wst (x :: l) = wth x + wst l := by simp [wst]
theorem wst_len : ∀ l : List Th, l.length ≤ wst l
  | [] => Nat.le_refl _
  | x :: l => by
    have := wst_len l
    have : 1 ≤ wth x := by cases x with
      | p q => exact wp_pos q
      | c n => exact Nat.le_refl _
    simp
    omega
theorem onw_cases (t : Str) (r : List Th) (k : Nat) (hk : k ≤ t.length) (M : Nat) (hM : ∀ y ∈ r, wth y ≤ M) :
    (onw t r k = []) ∨ (∃ a, onw t r k = [a] ∧ wst a.1 + 1 ≤ wst r ∧ a.2 ≤ t.length) ∨ (∃ a b, onw t r k = [a, b] ∧ wst a.1 ≤ wst r + M ∧ wst b.1 ≤ wst r + M ∧ a.2 ≤ t.length ∧ b.2 ≤ t.length) := by
  match r, hM with
  | [], _ => exact .inl rfl
  | .c n :: r, _ => exact .inr (.inl ⟨_, rfl, by simp [wth]; omega, hk⟩)
  | .p q :: r, hM =>
    have hq := hM _ List.mem_cons_self
    cases q with
    | sign s =>
      rw [onw]
      split
      · rename_i hc
        refine .inr (.inl ⟨_, rfl, by simp [wth, wp]; omega, ?_⟩)
        by_cases hlt : k < t.length
        · exact hlt
        · rw [chr_ge (Nat.not_lt.mp hlt)] at hc
          cases hc
      · exact .inl rfl
    | any =>
      rw [onw]
      split
      · rename_i hc
        exact .inr (.inl ⟨_, rfl, by simp [wth, wp]; omega, hc⟩)
      · exact .inl rfl
    | non => exact .inr (.inl ⟨_, rfl, by simp [wth, wp]; omega, hk⟩)
    | row a b => exact .inr (.inl ⟨_, rfl, by simp [wth, wp]; omega, hk⟩)
    | or a b => exact .inr (.inr ⟨_, _, rfl, by simp [wth, wp]; omega, by simp [wth, wp]; omega, hk, hk⟩)
    | more a =>
      simp [wth, wp] at hq
      exact .inr (.inr ⟨_, _, rfl, by simp [wth, wp]; omega, by simp [wth, wp]; omega, hk, hk⟩)
    | less a =>
      simp [wth, wp] at hq
      exact .inr (.inr ⟨_, _, rfl, by simp [wth, wp]; omega, by simp [wth, wp]; omega, hk, hk⟩)
    | group n a => exact .inr (.inl ⟨_, rfl, by simp [wth, wp]; omega, hk⟩)
theorem onw_closed {P : Th → Prop} (C : Closed P) (t : Str) (r : List Th) (k : Nat) (h : ∀ y ∈ r, P y) : ∀ x ∈ onw t r k, ∀ y ∈ x.1, P y := by
  match r, h with
  | [], _ => intro x hx; simp [onw] at hx
  | .c n :: r, h =>
    intro x hx
    simp [onw] at hx
    subst hx
    exact fun y hy => h y (List.mem_cons_of_mem _ hy)
  | .p q :: r, h =>
    have hq := h (.p q) List.mem_cons_self
    have hr : ∀ y ∈ r, P y := fun y hy => h y (List.mem_cons_of_mem _ hy)
    have one : ∀ u, P u → ∀ y ∈ u :: r, P y := fun u hu y hy => by
      rcases List.mem_cons.mp hy with rfl | hy
      · exact hu
      · exact hr y hy
    have two : ∀ u v, P u → P v → ∀ y ∈ u :: v :: r, P y := fun u v hu hv y hy => by
      rcases List.mem_cons.mp hy with rfl | hy
      · exact hu
      · exact one v hv y hy
    cases q with
    | sign s =>
      intro x hx
      rw [onw] at hx
      split at hx
      · simp at hx; subst hx; exact hr
      · simp at hx
    | any =>
      intro x hx
      rw [onw] at hx
      split at hx
      · simp at hx; subst hx; exact hr
      · simp at hx
    | non => intro x hx; simp [onw] at hx; subst hx; exact hr
    | row a b => intro x hx; simp [onw] at hx; subst hx; exact two _ _ (C.row a b hq).1 (C.row a b hq).2
    | or a b =>
      intro x hx
      simp [onw] at hx
      rcases hx with rfl | rfl
      · exact one _ (C.or a b hq).1
      · exact one _ (C.or a b hq).2
    | more a =>
      intro x hx
      simp [onw] at hx
      rcases hx with rfl | rfl
      · exact two _ _ (C.more a hq) hq
      · exact hr
    | less a =>
      intro x hx
      simp [onw] at hx
      rcases hx with rfl | rfl
      · exact hr
      · exact two _ _ (C.less a hq) hq
    | group n a => intro x hx; simp [onw] at hx; subst hx; exact two _ _ (C.group n a hq).1 (C.group n a hq).2
inductive Run (t : Str) (way : List PyData) : List Th × Nat → Nat → List (List Th × Nat) → Option ((List Th × Nat) × Nat) → Prop
  | stop {x : List Th × Nat} {u : Nat} : onw t x.1 x.2 = [] → Run t way x u [] (some (x, u))
  | one {x a : List Th × Nat} {u : Nat} {xs : List (List Th × Nat)} {r : Option ((List Th × Nat) × Nat)} : onw t x.1 x.2 = [a] → Run t way a u xs r → Run t way x u (a :: xs) r
  | two {x a b : List Th × Nat} {u : Nat} {xs : List (List Th × Nat)} {r : Option ((List Th × Nat) × Nat)} : onw t x.1 x.2 = [a, b] → way[u]? = some (.int 0) → Run t way a (u + 1) xs r → Run t way x u (a :: xs) r
  | twi {x a b : List Th × Nat} {u : Nat} {xs : List (List Th × Nat)} {r : Option ((List Th × Nat) × Nat)} : onw t x.1 x.2 = [a, b] → way[u]? = some (.int 1) → Run t way b (u + 1) xs r → Run t way x u (b :: xs) r
  | bad {x a b : List Th × Nat} {u : Nat} : onw t x.1 x.2 = [a, b] → way[u]? ≠ some (.int 0) → way[u]? ≠ some (.int 1) → Run t way x u [] none
theorem run_ex (t : Str) (way : List PyData) (M : Nat) (P : Th → Prop) (C : Closed P) (hM : ∀ y, P y → wth y ≤ M) : ∀ (c w : Nat) (x : List Th × Nat) (u : Nat), way.length - u = c → wst x.1 = w → (∀ y ∈ x.1, P y) → x.2 ≤ t.length →
    ∃ xs r, Run t way x u xs r ∧ xs.length ≤ w + c * (M + 1) ∧ ∀ y ∈ xs, (∀ z ∈ y.1, P z) ∧ y.1.length ≤ w + c * (M + 1) := by
  intro c
  induction c with
  | zero =>
    intro w
    induction w using Nat.strongRecOn with
    | _ w ih =>
      intro x u hu hw hP hk
      have hc := onw_closed C t x.1 x.2 hP
      rcases onw_cases t x.1 x.2 hk M (fun y hy => hM y (hP y hy)) with h | ⟨a, h, ha, hk2⟩ | ⟨a, b, h, _⟩
      · exact ⟨[], _, .stop h, by simp, by simp⟩
      · obtain ⟨xs, r, h1, h2, h3⟩ := ih (wst a.1) (by omega) a u hu rfl (hc a (by rw [h]; simp)) hk2
        refine ⟨a :: xs, r, .one h h1, by simp at h2 ⊢; omega, fun y hy => ?_⟩
        rcases List.mem_cons.mp hy with rfl | hy
        · exact ⟨hc y (by rw [h]; simp), by have := wst_len y.1; omega⟩
        · have := h3 y hy; exact ⟨this.1, by have := this.2; omega⟩
      · have hn : way[u]? = none := List.getElem?_eq_none (by omega)
        exact ⟨[], _, .bad h (by rw [hn]; simp) (by rw [hn]; simp), by simp, by simp⟩
  | succ c ihc =>
    intro w
    induction w using Nat.strongRecOn with
    | _ w ih =>
      intro x u hu hw hP hk
      have hc := onw_closed C t x.1 x.2 hP
      have hm : (c + 1) * (M + 1) = c * (M + 1) + M + 1 := by rw [Nat.add_mul]; omega
      rcases onw_cases t x.1 x.2 hk M (fun y hy => hM y (hP y hy)) with h | ⟨a, h, ha, hk2⟩ | ⟨a, b, h, ha, hb, hka, hkb⟩
      · exact ⟨[], _, .stop h, by simp, by simp⟩
      · obtain ⟨xs, r, h1, h2, h3⟩ := ih (wst a.1) (by omega) a u hu rfl (hc a (by rw [h]; simp)) hk2
        refine ⟨a :: xs, r, .one h h1, by simp at h2 ⊢; omega, fun y hy => ?_⟩
        rcases List.mem_cons.mp hy with rfl | hy
        · exact ⟨hc y (by rw [h]; simp), by have := wst_len y.1; omega⟩
        · have := h3 y hy; exact ⟨this.1, by have := this.2; omega⟩
      · by_cases h0 : way[u]? = some (.int 0)
        · obtain ⟨xs, r, h1, h2, h3⟩ := ihc (wst a.1) a (u + 1) (by omega) rfl (hc a (by rw [h]; simp)) hka
          refine ⟨a :: xs, r, .two h h0 h1, by rw [List.length_cons, hm]; omega, fun y hy => ?_⟩
          rcases List.mem_cons.mp hy with rfl | hy
          · exact ⟨hc y (by rw [h]; simp), by have := wst_len y.1; rw [hm]; omega⟩
          · have := h3 y hy; exact ⟨this.1, by have := this.2; rw [hm]; omega⟩
        · by_cases h0' : way[u]? = some (.int 1)
          · obtain ⟨xs, r, h1, h2, h3⟩ := ihc (wst b.1) b (u + 1) (by omega) rfl (hc b (by rw [h]; simp)) hkb
            refine ⟨b :: xs, r, .twi h h0' h1, by rw [List.length_cons, hm]; omega, fun y hy => ?_⟩
            rcases List.mem_cons.mp hy with rfl | hy
            · exact ⟨hc y (by rw [h]; simp), by have := wst_len y.1; rw [hm]; omega⟩
            · have := h3 y hy; exact ⟨this.1, by have := this.2; rw [hm]; omega⟩
          · exact ⟨[], _, .bad h h0 h0', by simp, by simp⟩
/-! ### the program's walk -/
theorem number_ok (way : List PyData) (u : Nat) (k : Int) (hk : k = 0 ∨ k = 1) (h : way[u]? = some (.int k)) : F_number_at [.list way, .int u] = .ok (.dat (.int k)) := by
  have hu : u < way.length := (List.getElem?_eq_some_iff.mp h).1
  have h1 : atI way (u : Int) = some (.int k) := atI_nat h
  have h2 : ¬ (way.length : Int) ≤ u := by omega
  unfold F_number_at runF g_number_at
  rcases hk with rfl | rfl <;> simp [h1, h2]
theorem number_bad (way : List PyData) (u : Nat) (h0 : way[u]? ≠ some (.int 0)) (h1 : way[u]? ≠ some (.int 1)) : F_number_at [.list way, .int u] = .err .way := by
  unfold F_number_at runF g_number_at
  by_cases hu : u < way.length
  · have h2 : ¬ (way.length : Int) ≤ u := by omega
    have h3 : atI way (u : Int) = some way[u] := atI_nat (List.getElem?_eq_getElem hu)
    rw [List.getElem?_eq_getElem hu] at h0 h1
    cases hd : way[u] with
    | int i =>
      rw [hd] at h0 h1 h3
      have e0 : ¬ i = 0 := fun z => h0 (by rw [z])
      have e1 : ¬ i = 1 := fun z => h1 (by rw [z])
      by_cases hi : i < 0
      · simp [h2, h3, hi]
      · have hi2 : 1 < i := by omega
        simp [h2, h3, hi, hi2]
    | _ => rw [hd] at h3; simp [h2, h3]
  · have h2 : (way.length : Int) ≤ u := by omega
    simp [h2]
end GM

namespace GM
open PySem PySem.Spec L2
def WEnd (t : Str) (way : List PyData) (p : Sl) (fx : List (List Th × Nat)) (o : Out Fl) : Option ((List Th × Nat) × Nat) → Prop
  | some (y, u') => ∃ tn', o = .ok .nx [p, .dat (.str t), .dat (.list way), .dat (st y), .own (fx.map st), .dat (.int u'), .own [], tn']
  | none => ∃ r', o = .err .way r'
theorem walk_loop (t : Str) (ht : t.length ≤ 1000000) (way : List PyData) (p : Sl) {x : List Th × Nat} {u : Nat} {xs : List (List Th × Nat)} {r : Option ((List Th × Nat) × Nat)} (h : Run t way x u xs r) : ∀ (fnd : List (List Th × Nat)) (tn : Sl),
    (∀ y ∈ xs, y.1.length ≤ 16000000) → fnd.length + xs.length ≤ 16000000 →
    WEnd t way p (fnd ++ xs) (gWhile (tTruV 6) b_walk_0 [p, .dat (.str t), .dat (.list way), .dat (st x), .own (fnd.map st), .dat (.int u), .own ((onw t x.1 x.2).map st), tn]) r := by
  have hz := szl
  induction h with
  | stop h0 =>
    intro fnd tn _ _
    refine ⟨tn, ?_⟩
    rw [gWhile_unfold, h0]
    simp
  | @one x a u xs r h0 h1 ih =>
    intro fnd tn hl hn
    simp only [List.length_cons] at hn
    have hf : fnd.length < 16777216 := by omega
    have ho : F_onward [st a, .str t] = .ok (.own ((onw t a.1 a.2).map st)) := onward_ok a.1 a.2 t ht (hl a List.mem_cons_self)
    have e : gWhile (tTruV 6) b_walk_0 [p, .dat (.str t), .dat (.list way), .dat (st x), .own (fnd.map st), .dat (.int u), .own ((onw t x.1 x.2).map st), tn] = gWhile (tTruV 6) b_walk_0 [p, .dat (.str t), .dat (.list way), .dat (st a), .own ((fnd ++ [a]).map st), .dat (.int u), .own ((onw t a.1 a.2).map st), .dat (.int 0)] := by
      rw [gWhile_unfold, h0]
      have ha : atI [st a] 0 = some (st a) := rfl
      simp [b_walk_0, hz, hf, ho, ha]
    have := ih (fnd ++ [a]) (.dat (.int 0)) (fun y hy => hl y (List.mem_cons_of_mem _ hy)) (by simp; omega)
    rw [List.append_assoc] at this
    rw [e]
    exact this
  | @two x a b u xs r h0 hw h1 ih =>
    intro fnd tn hl hn
    simp only [List.length_cons] at hn
    have hf : fnd.length < 16777216 := by omega
    have ho : F_onward [st a, .str t] = .ok (.own ((onw t a.1 a.2).map st)) := onward_ok a.1 a.2 t ht (hl a List.mem_cons_self)
    have hnu := number_ok way u 0 (.inl rfl) hw
    have e : gWhile (tTruV 6) b_walk_0 [p, .dat (.str t), .dat (.list way), .dat (st x), .own (fnd.map st), .dat (.int u), .own ((onw t x.1 x.2).map st), tn] = gWhile (tTruV 6) b_walk_0 [p, .dat (.str t), .dat (.list way), .dat (st a), .own ((fnd ++ [a]).map st), .dat (.int (u + 1 : Nat)), .own ((onw t a.1 a.2).map st), .dat (.int 0)] := by
      rw [gWhile_unfold, h0]
      have ha : atI [st a, st b] 0 = some (st a) := rfl
      simp [b_walk_0, hz, hf, ho, ha, hnu]
    have := ih (fnd ++ [a]) (.dat (.int 0)) (fun y hy => hl y (List.mem_cons_of_mem _ hy)) (by simp; omega)
    rw [List.append_assoc] at this
    rw [e]
    exact this
  | @twi x a b u xs r h0 hw h1 ih =>
    intro fnd tn hl hn
    simp only [List.length_cons] at hn
    have hf : fnd.length < 16777216 := by omega
    have ho : F_onward [st b, .str t] = .ok (.own ((onw t b.1 b.2).map st)) := onward_ok b.1 b.2 t ht (hl b List.mem_cons_self)
    have hnu := number_ok way u 1 (.inr rfl) hw
    have e : gWhile (tTruV 6) b_walk_0 [p, .dat (.str t), .dat (.list way), .dat (st x), .own (fnd.map st), .dat (.int u), .own ((onw t x.1 x.2).map st), tn] = gWhile (tTruV 6) b_walk_0 [p, .dat (.str t), .dat (.list way), .dat (st b), .own ((fnd ++ [b]).map st), .dat (.int (u + 1 : Nat)), .own ((onw t b.1 b.2).map st), .dat (.int 1)] := by
      rw [gWhile_unfold, h0]
      have ha : atI [st a, st b] 1 = some (st b) := rfl
      simp [b_walk_0, hz, hf, ho, ha, hnu]
    have := ih (fnd ++ [b]) (.dat (.int 1)) (fun y hy => hl y (List.mem_cons_of_mem _ hy)) (by simp; omega)
    rw [List.append_assoc] at this
    rw [e]
    exact this
  | @bad x a b u h0 n0 n1 =>
    intro fnd tn _ _
    have hnu := number_bad way u n0 n1
    refine ⟨[p, .dat (.str t), .dat (.list way), .dat (st x), .own (fnd.map st), .dat (.int u), .own ((onw t x.1 x.2).map st), .dat (.int 0)], ?_⟩
    rw [gWhile_unfold, h0]
    simp [b_walk_0, hnu]
/-- whether a run is a walk to the end, with none left over -/
def fits (t : Str) (way : List PyData) : Option ((List Th × Nat) × Nat) → Prop
  | some (y, u) => y.1 = [] ∧ y.2 = t.length ∧ way.length ≤ u
  | none => False
theorem walk_ok (p : Pat) (hf : p.fine = true) (hl : p.parts.length ≤ 4000) (hn : (nums p).Nodup) (t : Str) (ht : t.length ≤ 1000000) (way : List PyData) {xs : List (List Th × Nat)} {r : Option ((List Th × Nat) × Nat)} (h : Run t way ([.p p], 0) 0 xs r)
    (h1 : ∀ y ∈ xs, y.1.length ≤ 16000000) (h2 : xs.length ≤ 15000000) : (fits t way r → F_walk [enc p, .str t, .list way] = .ok (.own ((([.p p], 0) :: xs).map st))) ∧ (¬ fits t way r → F_walk [enc p, .str t, .list way] = .err .way) := by
  have hc := checked_ok p hf hl hn
  have hfs := first_state_ok p
  have ho := onward_ok [.p p] 0 t ht (by simp)
  have hw := walk_loop t ht way (.dat (enc p)) h [([.p p], 0)] .emp h1 (by simp; omega)
  simp only [List.map_cons, List.map_nil] at hw
  unfold F_walk runF g_walk
  cases r with
  | none =>
    obtain ⟨r', hw⟩ := hw
    refine ⟨fun z => z.elim, fun _ => ?_⟩
    simp at hw
    simp [hc, hfs, ho, hw]
  | some q =>
    obtain ⟨y, u'⟩ := q
    obtain ⟨tn', hw⟩ := hw
    have he : F_is_end [st y, .str t] = .ok (.dat (.bool (decide (y.1 = [] ∧ y.2 = t.length)))) := is_end_ok y.1 y.2 t ht
    simp at hw
    constructor
    · intro z
      obtain ⟨z1, z2, z3⟩ := z
      have hd : (y.1 = [] ∧ y.2 = t.length) = True := eq_true ⟨z1, z2⟩
      simp only [hd, decide_true] at he
      have z4 : ¬ (u' : Int) < way.length := by omega
      simp [hc, hfs, ho, hw, he, z4]
    · intro z
      by_cases hd : y.1 = [] ∧ y.2 = t.length
      · have hd' : (y.1 = [] ∧ y.2 = t.length) = True := eq_true hd
        simp only [hd', decide_true] at he
        have z4 : (u' : Int) < way.length := by
          have : ¬ way.length ≤ u' := fun q => z ⟨hd.1, hd.2, q⟩
          omega
        simp [hc, hfs, ho, hw, he, z4]
      · have hd' : (y.1 = [] ∧ y.2 = t.length) = False := eq_false hd
        simp only [hd', decide_false] at he
        simp [hc, hfs, ho, hw, he]
theorem lonw_ok (r : List Th) (k : Nat) (t : Str) (ht : t.length ≤ 1000000) (hk : k ≤ t.length) (hr : r.length ≤ 16000000) : F__law_onward [st (r, k), .str t] = .ok (.own ((onw t r k).map st)) := by
  unfold F__law_onward runF g__law_onward
  have hz := szl
  have ht' : t.length ≤ 16777216 := by omega
  match r, hr with
  | [], _ => simp [st, onw]
  | .c n :: r, hr =>
    have hl : r.length ≤ 16777000 := by simp at hr; omega
    have h0 : ¬ (r.length : Int) + 1 = 0 := by omega
    simp [st, onw, encT, h0]
  | .p q :: r, hr =>
    have hl : r.length + 1 ≤ 16000000 := by simpa using hr
    have hl1 : 1 + r.length ≤ 16777216 := by omega
    have hl2 : 2 + r.length ≤ 16777216 := by omega
    have h0 : ¬ (r.length : Int) + 1 = 0 := by omega
    cases q with
    | sign s =>
      by_cases h : k < t.length
      · obtain ⟨c, h1, h2⟩ := chr_lt h
        have h3 : atI t.cps.toList (k : Int) = some c := atI_nat h1
        have h4 : ¬ (k : Int) = (t.length : Nat) := by omega
        by_cases h5 : (⟨#[c]⟩ : Str) = s
        · subst h5
          simp [st, onw, encT, enc, hz, ht', h0, h2, h3, h4]
        · have h6 : ¬ s = (⟨#[c]⟩ : Str) := fun q => h5 q.symm
          simp [st, onw, encT, enc, hz, ht', h0, h2, h3, h4, h5, h6]
      · have h4 : k = t.length := by omega
        subst h4
        simp [st, onw, encT, enc, hz, ht', h0, chr_ge (Nat.le_refl _)]
    | any =>
      by_cases h : k < t.length
      · have h4 : ¬ (k : Int) = (t.length : Nat) := by omega
        simp [st, onw, encT, enc, hz, ht', h0, h, h4]
      · have h4 : k = t.length := by omega
        subst h4
        simp [st, onw, encT, enc, hz, ht', h0]
    | non => simp [st, onw, encT, enc, hz, hl1, hl2, h0]
    | row a b => simp [st, onw, encT, enc, hz, hl1, hl2, h0]
    | or a b => simp [st, onw, encT, enc, hz, hl1, hl2, h0]
    | more a => simp [st, onw, encT, enc, hz, hl1, hl2, h0]
    | less a => simp [st, onw, encT, enc, hz, hl1, hl2, h0]
    | group n a => simp [st, onw, encT, enc, hz, hl1, hl2, h0]
/-! ### the walk -/
def thOk (d : Nat) : Th → Prop
  | .p q => q.good = true ∧ q.dep ≤ d
  | .c _ => 2 ≤ d
theorem encT_lay (x : Th) {d : Nat} (h : thOk d x) : (encT x).canLay0 = true ∧ (encT x).depth ≤ d := by
  cases x with
  | p q => exact ⟨enc_lay q h.1, by rw [encT, enc_dep]; exact h.2⟩
  | c n => exact ⟨by simp [encT, PyData.canLay0, PyData.canLayAll0, strOk_words.2.2.2.2.2.2.2.2], by simp [encT, PyData.depth, PyData.depthAll]; exact Nat.le_trans (by decide) h⟩
theorem st_lay (x : List Th × Nat) {d : Nat} (h : ∀ y ∈ x.1, thOk d y) : (st x).canLay0 = true ∧ (st x).depth ≤ d + 2 := by
  have h1 : PyData.canLayAll0 (x.1.map encT) = true := canLayAll_of fun y hy => by
    obtain ⟨u, hu, rfl⟩ := List.mem_map.mp hy
    exact (encT_lay u (h u hu)).1
  have h2 : PyData.depthAll (x.1.map encT) ≤ d := depthAll_of fun y hy => by
    obtain ⟨u, hu, rfl⟩ := List.mem_map.mp hy
    exact (encT_lay u (h u hu)).2
  exact ⟨by simp [st, PyData.canLay0, PyData.canLayAll0, h1], by simp [st, PyData.depth, PyData.depthAll]; omega⟩
theorem eq_self (ds : List PyData) (h1 : ∀ d ∈ ds, d.canLay0 = true) (h2 : ∀ d ∈ ds, d.depth ≤ 63) : fEq (.list ds) (.list ds) = some true := by
  rw [fEq_l _ _ (shaped_list h1 h2) (shaped_list h1 h2)]
  rw [SeqAt.eqv_refl _ (by rw [PyData.canLay0]; exact canLayAll_of h1)]
theorem eq_selfT (ds : List PyData) (h1 : (PyData.tuple ds).canLay0 = true) (h2 : (PyData.tuple ds).depth ≤ 64) : fEq (.tuple ds) (.tuple ds) = some true := by
  have a : SeqAt.shaped (.tuple ds) = true := by
    unfold SeqAt.shaped
    rw [h1, decide_eq_true h2]
    rfl
  rw [fEq_t _ _ a a]
  rw [SeqAt.eqv_refl _ h1]
theorem run_last {t : Str} {way : List PyData} {x : List Th × Nat} {u : Nat} {xs : List (List Th × Nat)} {r : Option ((List Th × Nat) × Nat)} (h : Run t way x u xs r) : ∀ y u', r = some (y, u') → y ∈ x :: xs := by
  induction h with
  | stop h0 => intro y u' e; cases e; simp
  | one h0 h1 ih => intro y u' e; exact List.mem_cons_of_mem _ (ih y u' e)
  | two h0 hw h1 ih => intro y u' e; exact List.mem_cons_of_mem _ (ih y u' e)
  | twi h0 hw h1 ih => intro y u' e; exact List.mem_cons_of_mem _ (ih y u' e)
  | bad => intro y u' e; cases e
theorem end_ne (y : List Th × Nat) (k : Nat) {d : Nat} (hd : d ≤ 60) (h : ∀ z ∈ y.1, thOk d z) : fNe (st y) (.tuple [.tuple [], .int k]) = some (!decide (y.1 = [] ∧ y.2 = k)) := by
  obtain ⟨l1, l2⟩ := st_lay y h
  have s1 : SeqAt.shaped (st y) = true := by
    unfold SeqAt.shaped
    rw [l1, decide_eq_true (Nat.le_trans l2 (by omega))]
    rfl
  have s2 : SeqAt.shaped (.tuple [.tuple [], .int k]) = true := by
    unfold SeqAt.shaped
    simp [PyData.canLay0, PyData.canLayAll0, PyData.depth, PyData.depthAll]
  have e : PyData.eqv (st y) (.tuple [.tuple [], .int k]) = decide (y.1 = [] ∧ y.2 = k) := by
    obtain ⟨l, m⟩ := y
    cases l with
    | nil =>
      have : ((m : Int) == (k : Int)) = decide (m = k) := by
        by_cases q : m = k
        · subst q; simp
        · simp [q]; omega
      simp [st, PyData.eqv, PyData.eqvAll, this]
    | cons a l => simp [st, PyData.eqv, PyData.eqvAll]
  have := (fEq_t _ _ s1 s2 : fEq (.tuple [.tuple (y.1.map encT), .int y.2]) (.tuple [.tuple [], .int k]) = _)
  unfold fNe
  show Option.map not (fEq (.tuple [.tuple (y.1.map encT), .int y.2]) (.tuple [.tuple [], .int k])) = _
  rw [this]
  show some (!(PyData.eqv (st y) (.tuple [.tuple [], .int k]))) = _
  rw [e]
theorem way_bad (way : List PyData) (u : Nat) (h0 : way[u]? ≠ some (.int 0)) (h1 : way[u]? ≠ some (.int 1)) (hle : u ≤ way.length) : way.length = u ∨ ∃ d, u < way.length ∧ way[u]? = some d ∧ atI way (u : Int) = some d ∧ ((∃ b, d = .bool b) ∨ (∃ i : Int, d = .int i ∧ (i < 0 ∨ 1 < i)) ∨ (isiT "bool" (tyName d) = false ∧ isiT "int" (tyName d) = false)) := by
  by_cases hu : u < way.length
  · refine .inr ⟨way[u], hu, List.getElem?_eq_getElem hu, atI_nat (List.getElem?_eq_getElem hu), ?_⟩
    rw [List.getElem?_eq_getElem hu] at h0 h1
    cases hd : way[u] with
    | bool b => exact .inl ⟨b, rfl⟩
    | int i =>
      rw [hd] at h0 h1
      have e0 : ¬ i = 0 := fun z => h0 (by rw [z])
      have e1 : ¬ i = 1 := fun z => h1 (by rw [z])
      exact .inr (.inl ⟨i, rfl, by omega⟩)
    | _ => exact .inr (.inr ⟨by simp, by simp⟩)
  · exact .inl (by omega)
end GM

namespace GM
open PySem PySem.Spec L2
/-! ### the law's walk -/
def LEnd (t : Str) (way : List PyData) (p : Sl) (fx : List (List Th × Nat)) (o : Out Fl) : Option ((List Th × Nat) × Nat) → Prop
  | some (y, u') => ∃ tn', o = .ok .nx [p, .dat (.str t), .dat (.list way), .dat (st y), .own (fx.map st), .dat (.int u'), .own [], tn']
  | none => ∃ r', o = .ok (.rt (.dat .none)) r'
theorem lwalk_loop (t : Str) (ht : t.length ≤ 1000000) (way : List PyData) (p : Sl) {x : List Th × Nat} {u : Nat} {xs : List (List Th × Nat)} {r : Option ((List Th × Nat) × Nat)} (h : Run t way x u xs r) : ∀ (fnd : List (List Th × Nat)) (tn : Sl),
    (∀ y ∈ xs, y.1.length ≤ 16000000 ∧ y.2 ≤ t.length) → fnd.length + xs.length ≤ 16000000 → u ≤ way.length →
    LEnd t way p (fnd ++ xs) (gWhile (op2 fGt (dLenV 6) (dC (.int 0))) b__law_walked_0 [p, .dat (.str t), .dat (.list way), .dat (st x), .own (fnd.map st), .dat (.int u), .own ((onw t x.1 x.2).map st), tn]) r := by
  have hz := szl
  induction h with
  | stop h0 =>
    intro fnd tn _ _ _
    refine ⟨tn, ?_⟩
    rw [gWhile_unfold, h0]
    simp
  | @one x a u xs r h0 h1 ih =>
    intro fnd tn hl hn hu
    simp only [List.length_cons] at hn
    have hf : fnd.length < 16777216 := by omega
    have ho : F__law_onward [st a, .str t] = .ok (.own ((onw t a.1 a.2).map st)) := lonw_ok a.1 a.2 t ht (hl a List.mem_cons_self).2 (hl a List.mem_cons_self).1
    have e : gWhile (op2 fGt (dLenV 6) (dC (.int 0))) b__law_walked_0 [p, .dat (.str t), .dat (.list way), .dat (st x), .own (fnd.map st), .dat (.int u), .own ((onw t x.1 x.2).map st), tn] = gWhile (op2 fGt (dLenV 6) (dC (.int 0))) b__law_walked_0 [p, .dat (.str t), .dat (.list way), .dat (st a), .own ((fnd ++ [a]).map st), .dat (.int u), .own ((onw t a.1 a.2).map st), .dat (.int 0)] := by
      rw [gWhile_unfold, h0]
      have ha : atI [st a] 0 = some (st a) := rfl
      simp [b__law_walked_0, hz, hf, ho, ha]
    have := ih (fnd ++ [a]) (.dat (.int 0)) (fun y hy => hl y (List.mem_cons_of_mem _ hy)) (by simp; omega) hu
    rw [List.append_assoc] at this
    rw [e]
    exact this
  | @two x a b u xs r h0 hw h1 ih =>
    intro fnd tn hl hn hu
    simp only [List.length_cons] at hn
    have hf : fnd.length < 16777216 := by omega
    have hul : u < way.length := (List.getElem?_eq_some_iff.mp hw).1
    have hat : atI way (u : Int) = some (.int 0) := atI_nat hw
    have hne : ¬ (u : Int) = way.length := by omega
    have ho : F__law_onward [st a, .str t] = .ok (.own ((onw t a.1 a.2).map st)) := lonw_ok a.1 a.2 t ht (hl a List.mem_cons_self).2 (hl a List.mem_cons_self).1
    have e : gWhile (op2 fGt (dLenV 6) (dC (.int 0))) b__law_walked_0 [p, .dat (.str t), .dat (.list way), .dat (st x), .own (fnd.map st), .dat (.int u), .own ((onw t x.1 x.2).map st), tn] = gWhile (op2 fGt (dLenV 6) (dC (.int 0))) b__law_walked_0 [p, .dat (.str t), .dat (.list way), .dat (st a), .own ((fnd ++ [a]).map st), .dat (.int (u + 1 : Nat)), .own ((onw t a.1 a.2).map st), .dat (.int 0)] := by
      rw [gWhile_unfold, h0]
      have ha : atI [st a, st b] 0 = some (st a) := rfl
      simp [b__law_walked_0, hz, hf, ho, ha, hat, hne]
    have := ih (fnd ++ [a]) (.dat (.int 0)) (fun y hy => hl y (List.mem_cons_of_mem _ hy)) (by simp; omega) hul
    rw [List.append_assoc] at this
    rw [e]
    exact this
  | @twi x a b u xs r h0 hw h1 ih =>
    intro fnd tn hl hn hu
    simp only [List.length_cons] at hn
    have hf : fnd.length < 16777216 := by omega
    have hul : u < way.length := (List.getElem?_eq_some_iff.mp hw).1
    have hat : atI way (u : Int) = some (.int 1) := atI_nat hw
    have hne : ¬ (u : Int) = way.length := by omega
    have ho : F__law_onward [st b, .str t] = .ok (.own ((onw t b.1 b.2).map st)) := lonw_ok b.1 b.2 t ht (hl b List.mem_cons_self).2 (hl b List.mem_cons_self).1
    have e : gWhile (op2 fGt (dLenV 6) (dC (.int 0))) b__law_walked_0 [p, .dat (.str t), .dat (.list way), .dat (st x), .own (fnd.map st), .dat (.int u), .own ((onw t x.1 x.2).map st), tn] = gWhile (op2 fGt (dLenV 6) (dC (.int 0))) b__law_walked_0 [p, .dat (.str t), .dat (.list way), .dat (st b), .own ((fnd ++ [b]).map st), .dat (.int (u + 1 : Nat)), .own ((onw t b.1 b.2).map st), .dat (.int 1)] := by
      rw [gWhile_unfold, h0]
      have ha : atI [st a, st b] 1 = some (st b) := rfl
      simp [b__law_walked_0, hz, hf, ho, ha, hat, hne]
    have := ih (fnd ++ [b]) (.dat (.int 1)) (fun y hy => hl y (List.mem_cons_of_mem _ hy)) (by simp; omega) hul
    rw [List.append_assoc] at this
    rw [e]
    exact this
  | @bad x a b u h0 n0 n1 =>
    intro fnd tn _ _ hu
    rw [gWhile_unfold, h0]
    rcases way_bad way u n0 n1 hu with hw | ⟨d, hul, hd, hat, hk⟩
    · subst hw
      exact ⟨_, by simp [b__law_walked_0]; rfl⟩
    · have hne : ¬ (u : Int) = way.length := by omega
      rcases hk with ⟨q, rfl⟩ | ⟨i, rfl, hi⟩ | ⟨k1, k2⟩
      · exact ⟨_, by simp [b__law_walked_0, hne, hat]; rfl⟩
      · rcases hi with hi | hi
        · exact ⟨_, by simp [b__law_walked_0, hne, hat, hi]; rfl⟩
        · have hi2 : ¬ i < 0 := by omega
          exact ⟨_, by simp [b__law_walked_0, hne, hat, hi, hi2]; rfl⟩
      · cases d with
        | int i => simp at k2
        | bool q => simp at k1
        | _ => exact ⟨_, by simp [b__law_walked_0, hne, hat]; rfl⟩
theorem walked_ok (p : Pat) (t : Str) (ht : t.length ≤ 1000000) (way : List PyData) {xs : List (List Th × Nat)} {r : Option ((List Th × Nat) × Nat)} (h : Run t way ([.p p], 0) 0 xs r)
    (h1 : ∀ y ∈ xs, y.1.length ≤ 16000000 ∧ y.2 ≤ t.length) (h2 : xs.length ≤ 15000000) (h3 : ∀ y ∈ ([Th.p p], 0) :: xs, ∀ z ∈ y.1, thOk 60 z) :
    (fits t way r → F__law_walked [enc p, .str t, .list way] = .ok (.own ((([.p p], 0) :: xs).map st))) ∧ (¬ fits t way r → F__law_walked [enc p, .str t, .list way] = .ok (.dat .none)) := by
  have hz := szl
  have ht' : t.length ≤ 16777216 := by omega
  have ho := lonw_ok [.p p] 0 t ht (Nat.zero_le _) (by simp)
  have hw := lwalk_loop t ht way (.dat (enc p)) h [([.p p], 0)] .emp h1 (by simp; omega) (Nat.zero_le _)
  have e0 : st ([Th.p p], 0) = .tuple [.tuple [enc p], .int 0] := rfl
  simp only [List.map_cons, List.map_nil] at hw
  unfold F__law_walked runF g__law_walked
  cases r with
  | none =>
    obtain ⟨r', hw⟩ := hw
    refine ⟨fun z => z.elim, fun _ => ?_⟩
    rw [e0] at hw ho
    simp at hw ho
    simp [ho, hw]
  | some q =>
    obtain ⟨y, u'⟩ := q
    obtain ⟨tn', hw⟩ := hw
    have hy := run_last h y u' rfl
    have he := end_ne y t.length (d := 60) (by decide) (h3 y hy)
    rw [e0] at hw ho
    simp at hw ho
    constructor
    · intro z
      obtain ⟨z1, z2, z3⟩ := z
      have hd : (y.1 = [] ∧ y.2 = t.length) = True := eq_true ⟨z1, z2⟩
      simp only [hd, decide_true] at he
      have z4 : ¬ (u' : Int) < way.length := by omega
      simp [ho, hw, he, z4, hz, ht', e0]
    · intro z
      by_cases hd : y.1 = [] ∧ y.2 = t.length
      · have hd' : (y.1 = [] ∧ y.2 = t.length) = True := eq_true hd
        simp only [hd', decide_true] at he
        have z4 : (u' : Int) < way.length := by
          have : ¬ way.length ≤ u' := fun q => z ⟨hd.1, hd.2, q⟩
          omega
        simp [ho, hw, he, z4, hz, ht']
      · have hd' : (y.1 = [] ∧ y.2 = t.length) = False := eq_false hd
        simp only [hd', decide_false] at he
        simp [ho, hw, he, hz, ht']
end GM

namespace GM
open PySem PySem.Spec L2
/-! ### entries -/
@[simp] theorem app_len (a b : Str) : (a ++ b).length = a.length + b.length := Array.size_append
theorem one_len (x : Nat) : (⟨#[x]⟩ : Str).length = 1 := rfl
theorem nil_len : ("" : Str).length = 0 := rfl
structure Ent where
  p : Pat
  t : Str
  w : List PyData
def pr (e : Ent) : PyData := .tuple [enc e.p, .bool e.p.nul, .str e.t, .list e.w]
@[simp] theorem pr_0 (e : Ent) : fIx (pr e) (.int 0) = some (enc e.p) := rfl
@[simp] theorem pr_1 (e : Ent) : fIx (pr e) (.int 1) = some (.bool e.p.nul) := rfl
@[simp] theorem pr_2 (e : Ent) : fIx (pr e) (.int 2) = some (.str e.t) := rfl
@[simp] theorem pr_3 (e : Ent) : fIx (pr e) (.int 3) = some (.list e.w) := rfl
def GW (w : List PyData) : Prop := ∀ d ∈ w, ∃ i : Int, d = .int i
theorem GW.app {a b : List PyData} (h : GW a) (h' : GW b) : GW (a ++ b) := fun d hd => (List.mem_append.mp hd).elim (h d) (h' d)
theorem GW.one (i : Int) : GW [.int i] := fun d hd => ⟨i, by simpa using hd⟩
theorem GW.nil : GW [] := fun d hd => by simp at hd
def Good (e : Ent) : Prop := e.p.good = true ∧ e.p.fine = true ∧ GW e.w ∧ (e.p.nul = false → 1 ≤ e.t.length)
theorem leaf_ok (c h : Int) : ∃ e : Ent, F__law_leaf [.int c, .int h] = .ok (.dat (pr e)) ∧ Good e ∧ e.p.dep = 1 ∧ wp e.p = 1 ∧ nums e.p = [] ∧ e.w.length = 0 ∧ e.t.length ≤ 1 := by
  have hm : ∃ v : Int, atI [PyData.int h, .int h, .int h, .int (h / 95), .int (c / 6), .int (h / 95)] (c % 6) = some (.int v) := by
    have h6 : c % 6 = 0 ∨ c % 6 = 1 ∨ c % 6 = 2 ∨ c % 6 = 3 ∨ c % 6 = 4 ∨ c % 6 = 5 := by omega
    rcases h6 with e | e | e | e | e | e
    · exact ⟨h, by rw [e]; rfl⟩
    · exact ⟨h, by rw [e]; rfl⟩
    · exact ⟨h, by rw [e]; rfl⟩
    · exact ⟨h / 95, by rw [e]; rfl⟩
    · exact ⟨c / 6, by rw [e]; rfl⟩
    · exact ⟨h / 95, by rw [e]; rfl⟩
  obtain ⟨v, hv⟩ := hm
  obtain ⟨x1, l1, h1⟩ := sign_ok v
  unfold F__law_leaf runF g__law_leaf
  by_cases e5 : c % 6 = 5
  · rw [e5] at hv
    rcases mod3 (c / 6) with e0 | e0 | e0
    · exact ⟨⟨.non, "", []⟩, (by (simp [hv, h1, e5, e0]) <;> rfl), ⟨rfl, rfl, GW.nil, fun z => by cases z⟩, rfl, rfl, rfl, rfl, by decide⟩
    · exact ⟨⟨.any, ⟨#[x1]⟩, []⟩, (by (simp [hv, h1, e5, e0]) <;> rfl), ⟨rfl, rfl, GW.nil, fun _ => Nat.le_refl _⟩, rfl, rfl, rfl, rfl, Nat.le_refl _⟩
    · exact ⟨⟨.any, ⟨#[x1]⟩, []⟩, (by (simp [hv, h1, e5, e0]) <;> rfl), ⟨rfl, rfl, GW.nil, fun _ => Nat.le_refl _⟩, rfl, rfl, rfl, rfl, Nat.le_refl _⟩
  · exact ⟨⟨.sign ⟨#[x1]⟩, ⟨#[x1]⟩, []⟩, (by (simp [hv, h1, e5]) <;> rfl), ⟨sign_good l1, rfl, GW.nil, fun _ => Nat.le_refl _⟩, rfl, rfl, rfl, rfl, Nat.le_refl _⟩
theorem two_ok (c : Int) (l r : Ent) (hl : Good l) (hr : Good r) (b1 : l.w.length + r.w.length ≤ 4000000) (b2 : l.t.length + r.t.length ≤ 4000000) : ∃ e : Ent, F__law_two [.int c, pr l, pr r] = .ok (.dat (pr e)) ∧ Good e ∧ (e.p = .row l.p r.p ∨ e.p = .or l.p r.p) ∧
    ((e.t.length = l.t.length + r.t.length ∧ e.w.length = l.w.length + r.w.length) ∨ (e.t.length = l.t.length ∧ e.w.length = l.w.length + 1) ∨ (e.t.length = r.t.length ∧ e.w.length = r.w.length + 1)) := by
  obtain ⟨l1, l2, l3, l4⟩ := hl
  obtain ⟨r1, r2, r3, r4⟩ := hr
  have hz := szl
  have a1 : l.t.length + r.t.length ≤ 16777216 := by omega
  have a3 : l.w.length + r.w.length ≤ 16777216 := by omega
  have c1 : 1 + l.w.length ≤ 16777216 := by omega
  have c3 : 1 + r.w.length ≤ 16777216 := by omega
  have d1 : l.w.length + 1 ≤ 16777216 := by omega
  have d3 : r.w.length + 1 ≤ 16777216 := by omega
  unfold F__law_two runF g__law_two
  rcases mod2 c with e | e
  · refine ⟨⟨.row l.p r.p, l.t ++ r.t, l.w ++ r.w⟩, ?_, ⟨by simp [Pat.good, l1, r1], by simp [Pat.fine, l2, r2], l3.app r3, fun z => ?_⟩, .inl rfl, .inl ⟨app_len _ _, List.length_append⟩⟩
    · cases hln : l.p.nul <;> cases hrn : r.p.nul <;> (simp [e, hz, a1, a3, hln, hrn]; simp [pr, enc, Pat.nul, hln, hrn])
    · rw [app_len]
      simp [Pat.nul] at z
      cases hln : l.p.nul with
      | false => have := l4 hln; omega
      | true => have := r4 (z hln); omega
  · rcases mod2 (c / 2) with t2 | t2
    · refine ⟨⟨.or l.p r.p, l.t, [.int 0] ++ l.w⟩, ?_, ⟨by simp [Pat.good, l1, r1], by simp [Pat.fine, l2, r2], (GW.one 0).app l3, fun z => ?_⟩, .inr rfl, .inr (.inl ⟨rfl, by simp⟩)⟩
      · cases hln : l.p.nul <;> cases hrn : r.p.nul <;> (simp [e, t2, hz, c1, c3, d1, d3, hln, hrn]; simp [pr, enc, Pat.nul, hln, hrn])
      · simp [Pat.nul] at z
        exact l4 z.1
    · refine ⟨⟨.or l.p r.p, r.t, [.int 1] ++ r.w⟩, ?_, ⟨by simp [Pat.good, l1, r1], by simp [Pat.fine, l2, r2], (GW.one 1).app r3, fun z => ?_⟩, .inr rfl, .inr (.inr ⟨rfl, by simp⟩)⟩
      · cases hln : l.p.nul <;> cases hrn : r.p.nul <;> (simp [e, t2, hz, c1, c3, d1, d3, hln, hrn]; simp [pr, enc, Pat.nul, hln, hrn])
      · simp [Pat.nul] at z
        exact r4 z.2
/-! ### rounds -/
def ml (c : Int) (q : Pat) : Pat := if c % 2 = 0 then .more q else .less q
theorem rloop (c : Int) (q : PyData) (b : Bool) (tx : Str) (w : List PyData) (hw : GW w) (H s3 many : Sl) : ∀ (ds : List PyData) (wy : List PyData) (tn : Sl), GW wy → wy.length + ds.length * (w.length + 1) ≤ 9000000 →
    ∃ (wy' : List PyData) (tn' : Sl), forL (gtN 6) b__law_round_0 ds [.dat (.int c), .dat (.tuple [q, .bool b, .str tx, .list w]), H, s3, many, .own wy, tn] = .ok .nx [.dat (.int c), .dat (.tuple [q, .bool b, .str tx, .list w]), H, s3, many, .own wy', tn'] ∧ GW wy' ∧ wy'.length = wy.length + ds.length * (w.length + 1) := by
  intro ds
  have hz := szl
  induction ds with
  | nil => intro wy tn h _; exact ⟨wy, tn, rfl, h, by simp⟩
  | cons d ds ih =>
    intro wy tn h hl
    have hm : (d :: ds).length * (w.length + 1) = (w.length + 1) + ds.length * (w.length + 1) := by rw [List.length_cons, Nat.succ_mul]; omega
    rw [hm] at hl ⊢
    have hlen : (wy ++ [PyData.int (c % 2)] ++ w).length = wy.length + 1 + w.length := by simp; omega
    obtain ⟨wy', tn', h1, h2, h3⟩ := ih (wy ++ [PyData.int (c % 2)] ++ w) (.dat d) ((h.app (GW.one _)).app hw) (by rw [hlen]; omega)
    refine ⟨wy', tn', ?_, h2, by rw [h3, hlen]; omega⟩
    rw [forL, ← h1]
    have c1 : wy.length + 1 ≤ 16777216 := by omega
    have c2 : wy.length + 1 + w.length ≤ 16777216 := by omega
    have c3 : wy.length + (w.length + 1) ≤ 16777216 := by omega
    simp [-forL, b__law_round_0, hz, c1, c2, c3]
noncomputable def rtail : En → Out Fl :=
  (gSeq (gSet 4 (GM.dat (op2 fMod (op2 fDiv (dVar 0) (dC (.int 2))) (dC (.int 4)))))
  (gSeq (gIf (op2 fGt (op2 fMul (dVar 4) (op1 fLen (dIxV 1 (dC (.int 2))))) (dC (.int 12)))
  (gSet 4 (GM.dat (dC (.int 1))))
  gNx)
  (gSeq (gSet 5 (dLst dNil))
  (gSeq (gFor (iRngD (dVar 4)) (gtN 6) b__law_round_0)
  (gRet (GM.dat (dTup (dCons (dTup (dCons (op2 fIx (frz (dLst (dCons (dC (.str "more")) (dCons (dC (.str "less")) dNil)))) (op2 fMod (dVar 0) (dC (.int 2)))) (dCons (dIxV 1 (dC (.int 0))) dNil))) (dCons (dC (.bool true)) (dCons (op2 fMul (dIxV 1 (dC (.int 2))) (dVar 4)) (dCons (frz (op2 fAdd (dVar 5) (frz (dLst (dCons (op2 fSub (dC (.int 1)) (op2 fMod (dVar 0) (dC (.int 2)))) dNil))))) dNil)))))))))))
noncomputable def rtail2 : En → Out Fl :=
  (gSeq (gSet 5 (dLst dNil))
  (gSeq (gFor (iRngD (dVar 4)) (gtN 6) b__law_round_0)
  (gRet (GM.dat (dTup (dCons (dTup (dCons (op2 fIx (frz (dLst (dCons (dC (.str "more")) (dCons (dC (.str "less")) dNil)))) (op2 fMod (dVar 0) (dC (.int 2)))) (dCons (dIxV 1 (dC (.int 0))) dNil))) (dCons (dC (.bool true)) (dCons (op2 fMul (dIxV 1 (dC (.int 2))) (dVar 4)) (dCons (frz (op2 fAdd (dVar 5) (frz (dLst (dCons (op2 fSub (dC (.int 1)) (op2 fMod (dVar 0) (dC (.int 2)))) dNil))))) dNil)))))))))
theorem rtail_a (c : Int) (q : PyData) (b : Bool) (tx : Str) (w : List PyData) (ht : tx.length ≤ 1000) (H s3 s5 s6 : Sl) : ∃ j : Int, 0 ≤ j ∧ j ≤ 3 ∧ (2 ≤ j → j * (tx.length : Int) ≤ 12) ∧
    rtail [.dat (.int c), .dat (.tuple [q, .bool b, .str tx, .list w]), H, s3, .emp, s5, s6] = rtail2 [.dat (.int c), .dat (.tuple [q, .bool b, .str tx, .list w]), H, s3, .dat (.int j), s5, s6] := by
  have hz := szl
  have m3 : tx.length ≤ 16777216 := by omega
  obtain ⟨L, hL⟩ : ∃ L : Int, (tx.length : Int) = L := ⟨_, rfl⟩
  have m1 : -18446744073709551616 < L := by omega
  have m2 : L < 18446744073709551616 := by omega
  unfold rtail
  rw [← rtail2, hL]
  generalize rtail2 = g
  by_cases hg : 12 < c / 2 % 4 * L
  · refine ⟨1, by omega, by omega, fun z => by omega, ?_⟩
    simp [hz, m3, hL, m1, m2, hg]
  · refine ⟨c / 2 % 4, by omega, by omega, fun _ => by omega, ?_⟩
    simp [hz, m3, hL, m1, m2, hg]
theorem rtail_b (c N : Int) (q : Pat) (b : Bool) (tx : Str) (w wy : List PyData) (H s3 s5 s6 tn : Sl) (ht : tx.length ≤ 1000) (j0 : 0 ≤ N) (i1 : -4611686018427387904 ≤ N) (i2 : N < 4611686018427387904) (i3 : N ≤ 1000) (i4 : wy.length + 1 ≤ 16777216)
    (k1 : forL (gtN 6) b__law_round_0 (rng N.toNat) [.dat (.int c), .dat (.tuple [enc q, .bool b, .str tx, .list w]), H, s3, .dat (.int N), .own [], s6] = .ok .nx [.dat (.int c), .dat (.tuple [enc q, .bool b, .str tx, .list w]), H, s3, .dat (.int N), .own wy, tn]) :
    rtail2 [.dat (.int c), .dat (.tuple [enc q, .bool b, .str tx, .list w]), H, s3, .dat (.int N), s5, s6] = .ok (.rt (.dat (pr ⟨ml c q, Txt.mul tx N, wy ++ [.int (1 - c % 2)]⟩))) [.dat (.int c), .dat (.tuple [enc q, .bool b, .str tx, .list w]), H, s3, .dat (.int N), .dat (.list wy), tn] := by
  have hz := szl
  rcases mod2 c with hc | hc
  · simp [-forL, rtail2, hz, k1, hc, i1, i2, i3, i4, j0, ht]
    simp [pr, ml, hc, enc, Pat.nul]
  · simp [-forL, rtail2, hz, k1, hc, i1, i2, i3, i4, j0, ht]
    simp [pr, ml, hc, enc, Pat.nul]
theorem nat_lo (n : Nat) : -4611686018427387904 ≤ (n : Int) := Int.le_trans (by decide) (Int.natCast_nonneg n)
theorem nat_hi (n : Nat) (h : (n : Int) ≤ 3) : (n : Int) < 4611686018427387904 := Int.lt_of_le_of_lt h (by decide)
theorem mul_len (tx : Str) (n : Nat) : (Txt.mul tx (n : Int)).length = n * tx.length := by
  have hL := PyProof.Rows.len_mul tx n
  have hneg : ¬ ((n : Int) < 0) := by omega
  simp only [hneg, decide_false, Bool.false_eq_true, if_false] at hL
  have e : ((n * tx.length : Nat) : Int) = (tx.length : Int) * n := by rw [Int.natCast_mul, Int.mul_comm]
  omega
theorem rtail_ok (c : Int) (q : Pat) (b : Bool) (tx : Str) (w : List PyData) (hw : GW w) (ht : tx.length ≤ 1000) (hl : w.length ≤ 1000000) (H s3 s5 s6 : Sl) : ∃ (j : Nat) (tx' : Str) (wy : List PyData) (r' : En), j ≤ 3 ∧ (2 ≤ j → j * tx.length ≤ 12) ∧
    rtail [.dat (.int c), .dat (.tuple [enc q, .bool b, .str tx, .list w]), H, s3, .emp, s5, s6] = .ok (.rt (.dat (pr ⟨ml c q, tx', wy⟩))) r' ∧ GW wy ∧ tx'.length = j * tx.length ∧ wy.length = j * (w.length + 1) + 1 := by
  obtain ⟨j, j0, j3, hj, e0⟩ := rtail_a c (enc q) b tx w ht H s3 s5 s6
  obtain ⟨n, rfl⟩ := Int.eq_ofNat_of_zero_le j0
  have hn3 : n ≤ 3 := by omega
  have hlen : (rng n).length = n := by simp [rng]
  have hmul : n * (w.length + 1) ≤ 3 * 1000001 := Nat.mul_le_mul hn3 (by omega)
  have hb : ([] : List PyData).length + (rng n).length * (w.length + 1) ≤ 9000000 := by
    rw [hlen, List.length_nil]
    omega
  obtain ⟨wy, tn, k1, k2, k3⟩ := rloop c (enc q) b tx w hw H s3 (.dat (.int (n : Int))) (rng n) [] s6 GW.nil hb
  rw [hlen, List.length_nil, Nat.zero_add] at k3
  have i4 : wy.length + 1 ≤ 16777216 := by omega
  have kk := rtail_b c n q b tx w wy H s3 s5 s6 tn ht j0 (nat_lo n) (nat_hi n j3) (Int.le_trans j3 (by decide)) i4 k1
  exact ⟨n, _, _, _, hn3, fun z => by have := hj (by omega); rw [← Int.natCast_mul] at this; omega, e0.trans kk, k2.app (GW.one _), mul_len tx n, by rw [List.length_append, k3]; rfl⟩
theorem round_ok (c h : Int) (e : Ent) (he : Good e) (b1 : e.w.length ≤ 500000) (b2 : e.t.length ≤ 900) : ∃ (e' : Ent) (j t1 : Nat), F__law_round [.int c, pr e, .int h] = .ok (.dat (pr e')) ∧ Good e' ∧ e'.p.dep ≤ e.p.dep + 2 ∧ wp e.p + 1 ≤ wp e'.p ∧ wp e'.p ≤ wp e.p + 3 ∧ nums e'.p = nums e.p ∧
    j ≤ 3 ∧ (2 ≤ j → j * t1 ≤ 12) ∧ 1 ≤ t1 ∧ e.t.length ≤ t1 ∧ t1 ≤ e.t.length + 1 ∧ e'.t.length = j * t1 ∧ e'.w.length = j * (e.w.length + 1) + 1 := by
  obtain ⟨h1, h2, h3, h4⟩ := he
  obtain ⟨x, lx, hx⟩ := sign_ok h
  have hz := szl
  have hdp := dep_pos e.p
  unfold F__law_round runF g__law_round
  rw [← rtail]
  cases hn : e.p.nul with
  | false =>
    obtain ⟨j, tx, wy, r', j3, jj, k1, k2, k3, k4⟩ := rtail_ok c e.p e.p.nul e.t e.w h3 (by omega) (by omega) (.dat (.int h)) .emp .emp .emp
    refine ⟨⟨ml c e.p, tx, wy⟩, j, e.t.length, ?_, ⟨?_, ?_, k2, ?_⟩, ?_, ?_, ?_, ?_, j3, jj, h4 hn, Nat.le_refl _, Nat.le_succ _, k3, k4⟩
    · have e0 : PyData.tuple [enc e.p, .bool e.p.nul, .str e.t, .list e.w] = pr e := rfl
      rw [e0] at k1
      generalize rtail = g at k1 ⊢
      simp [hn, k1]
    · unfold ml; split <;> exact h1
    · unfold ml; split <;> simp [Pat.fine, hn, h2]
    · unfold ml; split <;> (intro z; cases z)
    · unfold ml; split <;> simp [Pat.dep]
    · unfold ml; split <;> simp [wp] <;> omega
    · unfold ml; split <;> simp [wp] <;> omega
    · unfold ml; split <;> simp [nums, Pat.parts, num, List.filterMap_cons]
  | true =>
    obtain ⟨j, tx, wy, r', j3, jj, k1, k2, k3, k4⟩ := rtail_ok c (.row (.sign ⟨#[x]⟩) e.p) false (⟨#[x]⟩ ++ e.t) e.w h3 (by rw [app_len, one_len]; omega) (by omega) (.dat (.int h)) (.dat (.str ⟨#[x]⟩)) .emp .emp
    rw [app_len, one_len] at k3 jj
    refine ⟨⟨ml c (.row (.sign ⟨#[x]⟩) e.p), tx, wy⟩, j, 1 + e.t.length, ?_, ⟨?_, ?_, k2, ?_⟩, ?_, ?_, ?_, ?_, j3, jj, by omega, by omega, by omega, k3, k4⟩
    · generalize rtail = g at k1 ⊢
      have q1 : 1 + e.t.length ≤ 16777216 := by omega
      have q3 : (⟨#[x]⟩ : Str).length = 1 := rfl
      simp [enc] at k1
      simp [hn, hx, hz, q1, q3, k1]
    · have := sign_good lx
      unfold ml; split <;> simp [Pat.good, h1] <;> exact this
    · unfold ml; split <;> simp [Pat.fine, Pat.nul, h2] <;> rfl
    · unfold ml; split <;> (intro z; cases z)
    · unfold ml; split <;> simp [Pat.dep] <;> omega
    · unfold ml; split <;> simp [wp] <;> omega
    · unfold ml; split <;> simp [wp] <;> omega
    · unfold ml; split <;> simp [nums, Pat.parts, num, List.filterMap_cons]
end GM

namespace GM
open PySem PySem.Spec L2
/-! ### the pile -/
def sq (k : Nat) : Nat := k * k
theorem sq_s (k : Nat) : sq (k + 1) = sq k + 2 * k + 1 := by
  unfold sq
  rw [Nat.add_mul, Nat.mul_add]
  omega
def kA (k : Nat) : Nat := 3 * sq k + k
theorem kA_s (k : Nat) : kA (k + 1) = kA k + (6 * k + 4) := by
  unfold kA
  rw [sq_s]
  omega
def ut (s : List Ent) : Nat := (s.map fun e => e.t.length).sum
def up (s : List Ent) : Nat := (s.map fun e => wp e.p).sum
def un (s : List Ent) : List Int := s.flatMap fun e => nums e.p
@[simp] theorem ut_cons (e : Ent) (s : List Ent) : ut (e :: s) = e.t.length + ut s := by simp [ut]
@[simp] theorem up_cons (e : Ent) (s : List Ent) : up (e :: s) = wp e.p + up s := by simp [up]
@[simp] theorem un_cons (e : Ent) (s : List Ent) : un (e :: s) = nums e.p ++ un s := by simp [un]
/-- the way is short, told by the text and the pattern -/
def WB (A : Nat) (e : Ent) : Prop := e.w.length ≤ A * e.t.length + 2 * wp e.p
theorem WB.mono {A B : Nat} {e : Ent} (h : WB A e) (hab : A ≤ B) : WB B e := by
  unfold WB at h ⊢
  have := Nat.mul_le_mul_right e.t.length hab
  omega
theorem wb_round (A D : Nat) (e e' : Ent) (j t1 : Nat) (h : WB A e) (hD : 2 * wp e.p + 1 ≤ D) (h0 : wp e.p + 1 ≤ wp e'.p) (hj : j ≤ 3) (h1 : 1 ≤ t1) (h2 : e.t.length ≤ t1) (h3 : e'.t.length = j * t1) (h4 : e'.w.length = j * (e.w.length + 1) + 1) : WB (A + D) e' := by
  unfold WB at h ⊢
  have m1 := Nat.mul_le_mul_left A h2
  have m2 : D * 1 ≤ D * t1 := Nat.mul_le_mul_left D h1
  rw [h3, h4]
  have e1 : (A + D) * (j * t1) = j * (A * t1) + j * (D * t1) := by
    rw [Nat.add_mul, Nat.mul_left_comm, Nat.mul_left_comm D]
  rw [e1]
  generalize A * t1 = x at *
  generalize D * t1 = y at *
  have hj4 : j = 0 ∨ j = 1 ∨ j = 2 ∨ j = 3 := by omega
  rcases hj4 with rfl | rfl | rfl | rfl <;> omega
theorem wb_two (A : Nat) (l r e : Ent) (hl : WB A l) (hr : WB A r) (hp : e.p = .row l.p r.p ∨ e.p = .or l.p r.p)
    (h : (e.t.length = l.t.length + r.t.length ∧ e.w.length = l.w.length + r.w.length) ∨ (e.t.length = l.t.length ∧ e.w.length = l.w.length + 1) ∨ (e.t.length = r.t.length ∧ e.w.length = r.w.length + 1)) : WB A e := by
  unfold WB at hl hr ⊢
  have hw : wp e.p = 1 + wp l.p + wp r.p := by rcases hp with q | q <;> simp [q, wp]
  rcases h with ⟨h1, h2⟩ | ⟨h1, h2⟩ | ⟨h1, h2⟩
  · rw [h1, h2, hw, Nat.mul_add]; omega
  · rw [h1, h2, hw]; omega
  · rw [h1, h2, hw]; omega
structure Iv (k : Nat) (s : List Ent) (m : Int) (x : Nat) : Prop where
  good : ∀ e ∈ s, Good e ∧ e.p.dep ≤ x
  dp : x + s.length ≤ 2 * k
  w : up s + s.length ≤ 3 * k
  u : ∀ e ∈ s, WB (kA k) e
  v : ut s ≤ 12 * k
  nd : (un s).Nodup
  nb : ∀ n ∈ un s, 1 ≤ n ∧ n ≤ m
  m0 : 0 ≤ m
theorem kA_le (k : Nat) : kA k ≤ kA (k + 1) := by rw [kA_s]; omega
theorem Iv.up {k : Nat} {s : List Ent} {m : Int} {x : Nat} (h : Iv k s m x) : Iv (k + 1) s m x :=
  ⟨h.good, by have := h.dp; omega, by have := h.w; omega, fun e he => (h.u e he).mono (kA_le k), by have := h.v; omega, h.nd, h.nb, h.m0⟩
theorem Iv.leaf {k : Nat} {s : List Ent} {m : Int} {x : Nat} (h : Iv k s m x) (e : Ent) (h1 : Good e) (h2 : e.p.dep = 1) (h3 : wp e.p = 1) (h4 : nums e.p = []) (h5 : e.w.length = 0) (h6 : e.t.length ≤ 1) : Iv (k + 1) (e :: s) m (max x 1) := by
  refine ⟨fun a ha => ?_, ?_, ?_, fun a ha => ?_, ?_, ?_, ?_, h.m0⟩
  · rcases List.mem_cons.mp ha with rfl | ha
    · exact ⟨h1, by omega⟩
    · have := h.good a ha; exact ⟨this.1, by omega⟩
  · have := h.dp
    by_cases hx : x = 0
    · subst hx; simp; omega
    · simp; omega
  · have := h.w; simp; omega
  · rcases List.mem_cons.mp ha with rfl | ha
    · unfold WB; omega
    · exact (h.u a ha).mono (kA_le k)
  · have := h.v; simp; omega
  · have := h.nd; rw [un_cons, h4]; exact this
  · have := h.nb; rw [un_cons, h4]; exact this
theorem Iv.two {k : Nat} {p q : Ent} {s : List Ent} {m : Int} {x : Nat} (h : Iv k (p :: q :: s) m x) (e : Ent) (h1 : Good e) (h2 : e.p = .row q.p p.p ∨ e.p = .or q.p p.p)
    (h3 : (e.t.length = q.t.length + p.t.length ∧ e.w.length = q.w.length + p.w.length) ∨ (e.t.length = q.t.length ∧ e.w.length = q.w.length + 1) ∨ (e.t.length = p.t.length ∧ e.w.length = p.w.length + 1)) : Iv k (e :: s) m (x + 1) := by
  have gp := h.good p (by simp)
  have gq := h.good q (by simp)
  have d1 : e.p.dep ≤ x + 1 := by rcases h2 with q | q <;> simp [q, Pat.dep] <;> omega
  have w1 : wp e.p = 1 + wp q.p + wp p.p := by rcases h2 with q | q <;> simp [q, wp]
  have n1 : nums e.p = nums q.p ++ nums p.p := by rcases h2 with q | q <;> simp [q, nums, Pat.parts, num, List.filterMap_cons]
  refine ⟨fun a ha => ?_, ?_, ?_, fun a ha => ?_, ?_, ?_, ?_, h.m0⟩
  · rcases List.mem_cons.mp ha with rfl | ha
    · exact ⟨h1, d1⟩
    · have := h.good a (by simp [ha]); exact ⟨this.1, by omega⟩
  · have := h.dp; simp at this ⊢; omega
  · have := h.w; simp at this ⊢; omega
  · rcases List.mem_cons.mp ha with rfl | ha
    · exact wb_two _ q p _ (h.u q (by simp)) (h.u p (by simp)) h2 h3
    · exact h.u a (by simp [ha])
  · have := h.v
    simp at this ⊢
    omega
  · have := h.nd
    rw [un_cons, un_cons] at this
    rw [un_cons, n1]
    refine (List.Perm.nodup_iff ?_).mp this
    rw [← List.append_assoc]
    exact List.Perm.append_right _ List.perm_append_comm
  · intro n hn
    refine h.nb n ?_
    rw [un_cons, n1] at hn
    rw [un_cons, un_cons]
    simp at hn ⊢
    rcases hn with hn | hn | hn
    · exact .inr (.inl hn)
    · exact .inl hn
    · exact .inr (.inr hn)
theorem Iv.round {k : Nat} {p : Ent} {s : List Ent} {m : Int} {x : Nat} (h : Iv k (p :: s) m x) (e : Ent) (j t1 : Nat) (h1 : Good e) (h2 : e.p.dep ≤ p.p.dep + 2) (h0 : wp p.p + 1 ≤ wp e.p) (h3 : wp e.p ≤ wp p.p + 3) (h4 : nums e.p = nums p.p)
    (j3 : j ≤ 3) (jj : 2 ≤ j → j * t1 ≤ 12) (t0 : 1 ≤ t1) (t2 : p.t.length ≤ t1) (t3 : t1 ≤ p.t.length + 1) (h5 : e.t.length = j * t1) (h6 : e.w.length = j * (p.w.length + 1) + 1) : Iv (k + 1) (e :: s) m (x + 2) := by
  have gp := h.good p (by simp)
  have hw := h.w
  simp at hw
  refine ⟨fun a ha => ?_, ?_, ?_, fun a ha => ?_, ?_, ?_, ?_, h.m0⟩
  · rcases List.mem_cons.mp ha with rfl | ha
    · exact ⟨h1, by omega⟩
    · have := h.good a (by simp [ha]); exact ⟨this.1, by omega⟩
  · have := h.dp; simp at this ⊢; omega
  · simp; omega
  · rcases List.mem_cons.mp ha with rfl | ha
    · rw [kA_s]
      exact wb_round (kA k) (6 * k + 4) p _ j t1 (h.u p (by simp)) (by omega) h0 j3 t0 t2 h5 h6
    · exact (h.u a (by simp [ha])).mono (kA_le k)
  · have := h.v
    simp at this ⊢
    have hj4 : j = 0 ∨ j = 1 ∨ 2 ≤ j := by omega
    rcases hj4 with rfl | rfl | hj
    · omega
    · omega
    · have := jj hj; omega
  · have := h.nd; rw [un_cons] at this ⊢; rw [h4]; exact this
  · have := h.nb; rw [un_cons] at this ⊢; rw [h4]; exact this
def grp (n : Int) (p : Ent) : Ent := ⟨.group n p.p, p.t, p.w⟩
theorem Iv.group {k : Nat} {p : Ent} {s : List Ent} {m : Int} {x : Nat} (h : Iv k (p :: s) m x) (n : Int) (hn : m < n) : Iv (k + 1) (grp n p :: s) n (x + 1) := by
  have gp := h.good p (by simp)
  have hm := h.m0
  have hnums : nums (grp n p).p = n :: nums p.p := by simp [grp, nums, Pat.parts, num, List.filterMap_cons]
  refine ⟨fun a ha => ?_, ?_, ?_, fun a ha => ?_, ?_, ?_, ?_, by omega⟩
  · rcases List.mem_cons.mp ha with rfl | ha
    · have g := gp.1
      refine ⟨⟨g.1, ?_, g.2.2.1, g.2.2.2⟩, by simp [grp, Pat.dep]; omega⟩
      have : 1 ≤ n := by omega
      simp [grp, Pat.fine, this, g.2.1]
    · have := h.good a (by simp [ha]); exact ⟨this.1, by omega⟩
  · have := h.dp; simp at this ⊢; omega
  · have := h.w; simp [grp, wp] at this ⊢; omega
  · rcases List.mem_cons.mp ha with rfl | ha
    · have := (h.u p (by simp)).mono (kA_le k)
      unfold WB at this ⊢
      simp [grp, wp]
      omega
    · exact (h.u a (by simp [ha])).mono (kA_le k)
  · have := h.v; simp [grp] at this ⊢; omega
  · have h1 := h.nd
    have h2 := h.nb
    rw [un_cons] at h1 h2 ⊢
    rw [hnums, List.cons_append]
    exact List.nodup_cons.mpr ⟨fun hh => by have := (h2 n hh).2; omega, h1⟩
  · intro j hj
    rw [un_cons, hnums, List.cons_append] at hj
    rcases List.mem_cons.mp hj with rfl | hj
    · exact ⟨by omega, Int.le_refl _⟩
    · have := h.nb j (by rw [un_cons]; exact hj); exact ⟨this.1, by omega⟩
theorem kA_16 {k : Nat} (h : k ≤ 16) : kA k ≤ 784 := by
  have h1 : sq k ≤ sq 16 := Nat.mul_le_mul h h
  have h2 : sq 16 = 256 := rfl
  unfold kA
  omega
theorem Iv.wlen {k : Nat} {s : List Ent} {m : Int} {x : Nat} (h : Iv k s m x) (hk : k ≤ 16) : ∀ e ∈ s, e.w.length ≤ 784 * e.t.length + 2 * wp e.p := fun e he => by
  have := (h.u e he).mono (kA_16 hk)
  exact this
def Pile (z h : Sl) (k : Nat) (r : En) : Prop := ∃ (s : List Ent) (m : Int) (a b c d : Sl) (x : Nat), r = [z, h, .own (stk pr s), .dat (.int m), a, b, c, d] ∧ Iv k s m x
theorem deed_ok (z : Sl) (h : Int) (k : Nat) (hk : k ≤ 16) (cell : Int) (r : En) (hr : Pile z (.dat (.int h)) k r) : ∃ r2, b__law_made_0 (r.set 4 (.dat (.int cell))) = .ok .nx r2 ∧ Pile z (.dat (.int h)) (k + 1) r2 := by
  obtain ⟨s, m, a, b, c, d, x, rfl, I⟩ := hr
  have hz := szl
  have hdp := I.dp
  have Iw := I.w
  have Iv' := I.v
  have Iu := I.wlen hk
  have cz : s.length < 16777216 := by omega
  have leaf : (cell % 10 < 4 ∨ s.length = 0 ∨ (cell % 10 < 7 ∧ s.length < 2)) → ∃ r2, b__law_made_0 ([z, .dat (.int h), .own (stk pr s), .dat (.int m), .dat (.int cell), b, c, d]) = .ok .nx r2 ∧ Pile z (.dat (.int h)) (k + 1) r2 := fun k4 => by
    obtain ⟨e, he, h1, h2, h3, h4, h5, h6⟩ := leaf_ok (cell / 10) h
    refine ⟨[z, .dat (.int h), .own (stk pr (e :: s)), .dat (.int m), .dat (.int cell), .dat (.int (cell % 10)), c, d], ?_, e :: s, m, _, _, _, _, max x 1, rfl, I.leaf e h1 h2 h3 h4 h5 h6⟩
    by_cases k : cell % 10 < 4
    · simp [b__law_made_0, k, he, hz, cz, stk_app]
    · by_cases k0 : (s.length : Int) = 0
      · simp [b__law_made_0, k, k0, he, hz, cz, stk_app]
      · have k1 : cell % 10 < 7 := by omega
        have k2 : (s.length : Int) < 2 := by omega
        simp [b__law_made_0, k, k0, k1, k2, he, hz, cz, stk_app]
  show ∃ r2, b__law_made_0 ([z, .dat (.int h), .own (stk pr s), .dat (.int m), .dat (.int cell), b, c, d]) = .ok .nx r2 ∧ Pile z (.dat (.int h)) (k + 1) r2
  by_cases k4 : cell % 10 < 4 ∨ s.length = 0 ∨ (cell % 10 < 7 ∧ s.length < 2)
  · exact leaf k4
  · clear leaf
    have k1 : ¬ cell % 10 < 4 := fun k => k4 (.inl k)
    have k2 : ¬ (s.length : Int) = 0 := fun k => k4 (.inr (.inl (by omega)))
    have k3 : cell % 10 < 7 → ¬ (s.length : Int) < 2 := fun k q => k4 (.inr (.inr ⟨k, by omega⟩))
    cases s with
    | nil => exact absurd rfl k2
    | cons p s =>
      simp only [List.length_cons, Int.natCast_add, Int.cast_ofNat_Int] at k2 k3 cz
      have cz' : s.length < 16777216 := by omega
      have gp := (I.good p List.mem_cons_self).1
      have up := Iu p List.mem_cons_self
      rw [ut_cons] at Iv'
      rw [up_cons] at Iw
      by_cases k7 : cell % 10 < 7
      · have k5 := k3 k7
        cases s with
        | nil => exact absurd (by decide) k5
        | cons q s =>
          simp only [List.length_cons, Int.natCast_add, Int.cast_ofNat_Int] at k2 k5 cz'
          have gq := (I.good q (by simp)).1
          have uq := Iu q (by simp)
          rw [ut_cons] at Iv'
          rw [up_cons] at Iw
          obtain ⟨e, he, h1, h2, h3⟩ := two_ok (cell / 10) q p gq gp (by omega) (by omega)
          refine ⟨[z, .dat (.int h), .own (stk pr (e :: s)), .dat (.int m), .dat (.int cell), .dat (.int (cell % 10)), .dat (pr p), d], ?_, e :: s, m, _, _, _, _, x + 1, rfl, (I.two e h1 h2 h3).up⟩
          have cz2 : s.length < 16777216 := by omega
          simp [b__law_made_0, k1, k2, k5, k7, he, hz, cz2, stk_app]
      · by_cases k9 : cell % 10 < 9
        · obtain ⟨e, j, t1, he, h1, h2, h0, h3, h4, g1, g2, g3, g4, g5, g6, g7⟩ := round_ok (cell / 10) h p gp (by omega) (by omega)
          refine ⟨[z, .dat (.int h), .own (stk pr (e :: s)), .dat (.int m), .dat (.int cell), .dat (.int (cell % 10)), c, d], ?_, e :: s, m, _, _, _, _, x + 2, rfl, I.round e j t1 h1 h2 h0 h3 h4 g1 g2 g3 g4 g5 g6 g7⟩
          simp [b__law_made_0, k1, k2, k7, k9, he, hz, cz', stk_app]
        · have hm : m < m + 1 + h % 900 := by omega
          refine ⟨[z, .dat (.int h), .own (stk pr (grp (m + 1 + h % 900) p :: s)), .dat (.int (m + 1 + h % 900)), .dat (.int cell), .dat (.int (cell % 10)), c, .dat (pr p)], ?_, _, _, _, _, _, _, x + 1, rfl, I.group _ hm⟩
          have e9 : stk pr s ++ [PyData.tuple [.tuple [.str "group", .int (m + 1 + h % 900), enc p.p], .bool p.p.nul, .str p.t, .list p.w]] = stk pr (grp (m + 1 + h % 900) p :: s) := stk_app (f := pr) (x := grp (m + 1 + h % 900) p) (s := s)
          simp [b__law_made_0, k1, k2, k7, k9, hz, cz', e9]
theorem rows_ok (z h a m b d : Sl) (mm : Int) (k : Nat) (hk : k ≤ 16) : ∀ (n : Nat) (s : List Ent) (c : Sl) (x : Nat), s.length = n → Iv k s mm x →
    ∃ (s' : List Ent) (c' : Sl) (x' : Nat), gWhile (op2 fGt (dLenV 2) (dC (.int 1))) b__law_made_1 [z, h, .own (stk pr s), m, a, b, c, d] = .ok .nx [z, h, .own (stk pr s'), m, a, b, c', d] ∧ s'.length ≤ 1 ∧ Iv k s' mm x' := by
  intro n
  induction n using Nat.strongRecOn with
  | _ n ih =>
    intro s c x hn I
    have hz := szl
    rw [gWhile_unfold]
    match s, hn, I with
    | [], hn, I => exact ⟨[], c, x, by simp, by simp, I⟩
    | [p], hn, I => exact ⟨[p], c, x, by simp, by simp, I⟩
    | p :: q :: s, hn, I =>
      have gp := (I.good p (by simp)).1
      have gq := (I.good q (by simp)).1
      have up := I.wlen hk p (by simp)
      have uq := I.wlen hk q (by simp)
      have Iw := I.w
      have Iv' := I.v
      rw [up_cons, up_cons] at Iw
      rw [ut_cons, ut_cons] at Iv'
      have hdp := I.dp
      obtain ⟨e, he, h1, h2, h3⟩ := two_ok 0 q p gq gp (by omega) (by omega)
      have cz' : s.length < 16777216 := by
        simp at hdp
        omega
      obtain ⟨s', c', x', k1, k2, k3⟩ := ih (e :: s).length (by simp at hn ⊢; omega) (e :: s) (.dat (pr p)) (x + 1) rfl (I.two e h1 h2 h3)
      refine ⟨s', c', x', ?_, k2, k3⟩
      rw [← k1]
      simp [b__law_made_1, he, cz', hz, stk_app]
      intro hf
      omega
theorem parts_wp : ∀ p : Pat, p.parts.length ≤ wp p := by
  intro p
  induction p with
  | row p q ih1 ih2 => simp [Pat.parts, wp]; omega
  | or p q ih1 ih2 => simp [Pat.parts, wp]; omega
  | more p ih => simp [Pat.parts, wp]; omega
  | less p ih => simp [Pat.parts, wp]; omega
  | group n p ih => simp [Pat.parts, wp]; omega
  | _ => simp [Pat.parts, wp]
theorem made_ok (cells : List Int) (h : Int) (hc : cells.length ≤ 16) : ∃ e : Ent, F__law_made [intL cells, .int h] = .ok (.dat (pr e)) ∧ Good e ∧ e.p.dep ≤ 33 ∧ wp e.p ≤ 48 ∧ (nums e.p).Nodup ∧ e.w.length ≤ 160000 ∧ e.t.length ≤ 192 := by
  unfold F__law_made runF g__law_made
  obtain ⟨r', e1, hr'⟩ := forL_okN (g := b__law_made_0) (i := 4) (fun ds r => ∃ ns : List Int, ds = ns.map PyData.int ∧ ns.length ≤ cells.length ∧ Pile (.dat (intL cells)) (.dat (.int h)) (cells.length - ns.length) r) (fun d ds r hI => by
    obtain ⟨ns, e, hl, hp⟩ := hI
    cases ns with
    | nil => cases e
    | cons i ns =>
      rw [List.map_cons] at e
      obtain ⟨rfl, rfl⟩ := List.cons.inj e
      rw [List.length_cons] at hl hp
      obtain ⟨r2, h1, h2⟩ := deed_ok _ _ _ (by omega) i r hp
      refine ⟨r2, .inl h1, ns, rfl, by omega, ?_⟩
      have e3 : cells.length - (ns.length + 1) + 1 = cells.length - ns.length := by omega
      rw [← e3]
      exact h2) (cells.map PyData.int) [.dat (intL cells), .dat (.int h), .own [], .dat (.int 0), .emp, .emp, .emp, .emp] ⟨cells, rfl, Nat.le_refl _, [], _, _, _, _, _, 0, rfl, ⟨by simp, by simp, by simp [up], by simp, by simp [ut], by simp [un], by simp [un], by omega⟩⟩
  obtain ⟨ns, hns, _, s, m, a, b, c, d, x, rfl, I⟩ := hr'
  have hns' : ns = [] := by
    cases ns with
    | nil => rfl
    | cons _ _ => cases hns
  subst hns'
  simp only [List.length_nil, Nat.sub_zero] at I
  obtain ⟨s', c', x', e2, h2, I2⟩ := rows_ok (.dat (intL cells)) (.dat (.int h)) a (.dat (.int m)) b d m cells.length hc s.length s c x rfl I
  match s', h2, I2, e2 with
  | [], _, _, e2 =>
    refine ⟨⟨.non, "", []⟩, ?_, ⟨rfl, rfl, GW.nil, fun z => by cases z⟩, by decide, by decide, by simp [nums, Pat.parts, num, List.filterMap_cons], by decide, by decide⟩
    simp [intL] at e1 e2 ⊢
    (simp [e1, e2]) <;> rfl
  | [p], _, I2, e2 =>
    have g := I2.good p (by simp)
    have i1 := I2.dp
    have i2 := I2.w
    have i3 := I2.wlen hc p (by simp)
    have i4 := I2.v
    have i5 := I2.nd
    simp [ut, up, un] at i1 i2 i4 i5
    refine ⟨p, ?_, g.1, by omega, by omega, i5, by omega, by omega⟩
    have e3 : stk pr [p] = [pr p] := rfl
    simp [intL, e3] at e1 e2 ⊢
    simp [e1, e2, e3]
end GM

namespace GM
open PySem PySem.Spec L2
/-! ### the law -/
theorem closed_and {P Q : Th → Prop} (a : Closed P) (b : Closed Q) : Closed fun y => P y ∧ Q y :=
  ⟨fun x y h => ⟨⟨(a.row x y h.1).1, (b.row x y h.2).1⟩, (a.row x y h.1).2, (b.row x y h.2).2⟩, fun x y h => ⟨⟨(a.or x y h.1).1, (b.or x y h.2).1⟩, (a.or x y h.1).2, (b.or x y h.2).2⟩,
    fun x h => ⟨a.more x h.1, b.more x h.2⟩, fun x h => ⟨a.less x h.1, b.less x h.2⟩, fun n x h => ⟨⟨(a.group n x h.1).1, (b.group n x h.2).1⟩, (a.group n x h.1).2, (b.group n x h.2).2⟩⟩
theorem closed_ok : Closed (thOk 60) :=
  ⟨fun a b h => by simp [thOk, Pat.good, Pat.dep] at h ⊢; exact ⟨⟨h.1.1, by omega⟩, h.1.2, by omega⟩, fun a b h => by simp [thOk, Pat.good, Pat.dep] at h ⊢; exact ⟨⟨h.1.1, by omega⟩, h.1.2, by omega⟩,
    fun a h => by simp [thOk, Pat.good, Pat.dep] at h ⊢; exact ⟨h.1, by omega⟩, fun a h => by simp [thOk, Pat.good, Pat.dep] at h ⊢; exact ⟨h.1, by omega⟩, fun n a h => by simp [thOk, Pat.good, Pat.dep] at h ⊢; exact ⟨h.1, by omega⟩⟩
theorem closed_w (M : Nat) (hM : 1 ≤ M) : Closed fun y => wth y ≤ M :=
  ⟨fun a b h => by simp [wth, wp] at h ⊢; omega, fun a b h => by simp [wth, wp] at h ⊢; omega, fun a h => by simp [wth, wp] at h ⊢; omega, fun a h => by simp [wth, wp] at h ⊢; omega, fun n a h => by simp [wth, wp] at h ⊢; omega⟩
theorem wth_le : ∀ (l : List Th), ∀ y ∈ l, wth y ≤ wst l
  | [], y, h => by simp at h
  | x :: l, y, h => by
    rw [wst_cons]
    rcases List.mem_cons.mp h with rfl | h
    · omega
    · have := wth_le l y h; omega
theorem run_le {t : Str} {way : List PyData} {x : List Th × Nat} {u : Nat} {xs : List (List Th × Nat)} {r : Option ((List Th × Nat) × Nat)} (h : Run t way x u xs r) : x.2 ≤ t.length → ∀ y ∈ xs, y.2 ≤ t.length := by
  have step : ∀ (x a : List Th × Nat) (xs : List (List Th × Nat)), a ∈ onw t x.1 x.2 → (a.2 ≤ t.length → ∀ y ∈ xs, y.2 ≤ t.length) → x.2 ≤ t.length → ∀ y ∈ a :: xs, y.2 ≤ t.length := fun x a xs ha ih hx => by
    have ha2 : a.2 ≤ t.length := by
      rcases onw_cases t x.1 x.2 hx (wst x.1) (wth_le x.1) with h | ⟨b, h, _, h2⟩ | ⟨b, c, h, _, _, h2, h3⟩
      · rw [h] at ha; simp at ha
      · rw [h] at ha; simp at ha; subst ha; exact h2
      · rw [h] at ha
        simp at ha
        rcases ha with rfl | rfl
        · exact h2
        · exact h3
    intro y hy
    rcases List.mem_cons.mp hy with rfl | hy
    · exact ha2
    · exact ih ha2 y hy
  induction h with
  | stop h0 => intro _ y hy; simp at hy
  | one h0 h1 ih => exact step _ _ _ (by rw [h0]; simp) ih
  | two h0 hw h1 ih => exact step _ _ _ (by rw [h0]; simp) ih
  | twi h0 hw h1 ih => exact step _ _ _ (by rw [h0]; simp) ih
  | bad h0 n0 n1 => intro _ y hy; simp at hy
/-! ### the way changed -/
theorem cutL_take {α : Type} (l : List α) (a : Nat) : cutL l none (some (a : Int)) = l.take a := by
  unfold cutL
  rw [show HT.sIx l.length l.length (some (a : Int)) = min a l.length from HT.sIx_nat l.length l.length a, show HT.sIx l.length 0 none = 0 from rfl]
  simp
theorem cutL_drop {α : Type} (l : List α) (a : Nat) : cutL l (some (a : Int)) none = l.drop a := by
  unfold cutL
  rw [show HT.sIx l.length 0 (some (a : Int)) = min a l.length from HT.sIx_nat l.length 0 a, show HT.sIx l.length l.length none = l.length from rfl]
  by_cases h : a ≤ l.length
  · rw [Nat.min_eq_left h]; exact List.take_of_length_le (by rw [List.length_drop]; exact Nat.le_refl _)
  · rw [Nat.min_eq_right (by omega), List.drop_eq_nil_of_le (Nat.le_refl _), List.drop_eq_nil_of_le (by omega)]
    simp
theorem cut_facts {α : Type} (l : List α) (i : Int) (h0 : 0 ≤ i) (h1 : i ≤ l.length) : ∃ T D E : List α, cutL l none (some i) = T ∧ cutL l (some i) none = D ∧ cutL l (some (i + 1)) none = E ∧ T.length + D.length = l.length ∧ T.length + E.length ≤ l.length ∧ (i < l.length → T.length + E.length + 1 = l.length) ∧ (∀ d ∈ T, d ∈ l) ∧ (∀ d ∈ D, d ∈ l) ∧ ∀ d ∈ E, d ∈ l := by
  obtain ⟨a, rfl⟩ := Int.eq_ofNat_of_zero_le h0
  have e : ((a : Int) + 1) = ((a + 1 : Nat) : Int) := rfl
  refine ⟨_, _, _, cutL_take l a, cutL_drop l a, by rw [e]; exact cutL_drop l (a + 1), ?_, ?_, fun h => ?_, fun d hd => List.mem_of_mem_take hd, fun d hd => List.mem_of_mem_drop hd, fun d hd => List.mem_of_mem_drop hd⟩
  · simp; omega
  · simp; omega
  · simp; omega
def LW (w : List PyData) : Prop := ∀ d ∈ w, d.canLay0 = true ∧ d.depth ≤ 10
theorem GW.lw {w : List PyData} (h : GW w) : LW w := fun d hd => by
  obtain ⟨i, rfl⟩ := h d hd
  exact ⟨rfl, Nat.zero_le _⟩
theorem LW.app {a b : List PyData} (h : LW a) (h' : LW b) : LW (a ++ b) := fun d hd => (List.mem_append.mp hd).elim (h d) (h' d)
theorem LW.sub {a b : List PyData} (h : LW a) (h' : ∀ d ∈ b, d ∈ a) : LW b := fun d hd => h d (h' d hd)
theorem put_ok (way : List PyData) (hw : GW way) (hl : way.length ≤ 200000) (c : Int) : ∃ (s : Sl) (w : List PyData), F__law_put_otherwise [.list way, .int c] = .ok s ∧ (s = .own w ∨ s = .dat (.list w)) ∧ LW w ∧ w.length ≤ way.length + 1 := by
  have hz := szl
  unfold F__law_put_otherwise runF g__law_put_otherwise
  by_cases hc : c % 5 = 4 ∧ 0 < way.length
  · obtain ⟨h5, hp⟩ := hc
    have h0 : 0 ≤ c / 5 % (way.length : Int) := Int.emod_nonneg _ (by omega)
    have h1 : c / 5 % (way.length : Int) < way.length := Int.emod_lt_of_pos _ (by omega)
    obtain ⟨T, D, E, e1, e2, e3, l1, l2, l3, m1, m2, m3⟩ := cut_facts way _ h0 (by omega)
    obtain ⟨d, hd, hat⟩ := atI_mod way way.length (c / 5) rfl hp
    obtain ⟨v, rfl⟩ := hw d hd
    have l3' := l3 h1
    have q1 : T.length + 1 ≤ 16777216 := by omega
    have q2 : T.length + 1 + E.length ≤ 16777216 := by omega
    have q3 : T.length + (E.length + 1) ≤ 16777216 := by omega
    have hne : ¬ (way.length : Int) = 0 := by omega
    have hne2 : ¬ way = [] := fun z => by subst z; simp at hp
    refine ⟨.own (T ++ [.bool (decide (v = 1))] ++ E), _, ?_, .inl rfl, ((hw.lw.sub m1).app ?_).app (hw.lw.sub m3), by simp; omega⟩
    · simp [boolD, h5, hp, hne, hne2, e1, e3, hat, hz, q1, q2, q3]
    · intro d hd
      simp at hd
      subst hd
      exact ⟨rfl, Nat.zero_le _⟩
  · have h0 : 0 ≤ c / 36 % ((way.length : Int) + 1) := Int.emod_nonneg _ (by omega)
    have h1 : c / 36 % ((way.length : Int) + 1) < way.length + 1 := Int.emod_lt_of_pos _ (by omega)
    obtain ⟨T, D, E, e1, e2, e3, l1, l2, l3, m1, m2, m3⟩ := cut_facts way _ h0 (by omega)
    obtain ⟨d, hd, hat⟩ := atI_mod [PyData.int 0, .int 1, .bool true, .bool false, .int 2, .int (-1), .str "1", .none, .int 3, .int (-2), .list [.int 0], .tuple []] 12 (c / 3) rfl (by decide)
    have hd2 : d.canLay0 = true ∧ d.depth ≤ 10 := by
      simp at hd
      rcases hd with rfl | rfl | rfl | rfl | rfl | rfl | rfl | rfl | rfl | rfl | rfl | rfl <;> exact ⟨by decide +kernel, by decide +kernel⟩
    have q1 : T.length + 1 ≤ 16777216 := by omega
    have q2 : T.length + 1 + D.length ≤ 16777216 := by omega
    have q3 : T.length + (D.length + 1) ≤ 16777216 := by omega
    have q4 : T.length + E.length ≤ 16777216 := by omega
    have q5 : T.length + 1 + E.length ≤ 16777216 := by omega
    have q6 : T.length + (E.length + 1) ≤ 16777216 := by omega
    have hne : ¬ (way.length : Int) + 1 = 0 := by omega
    have one : LW [d] := fun y hy => by simp at hy; subst hy; exact hd2
    have hat' : atI [PyData.int 0, .int 1, .bool true, .bool false, .int 2, .int (-1), .str "1", .none, .int 3, .int (-2), .list [.int 0], .tuple []] (c / 3 % 12) = some d := hat
    have hcc : c % 5 = 4 → way.length = 0 := fun h => by
      by_cases hp : 0 < way.length
      · exact absurd ⟨h, hp⟩ hc
      · omega
    have h3 := mod3 c
    have key : ∀ (w : List PyData), F__law_put_otherwise [.list way, .int c] = .ok (.dat (.list w)) → LW w → w.length ≤ way.length + 1 → ∃ (s : Sl) (w : List PyData), F__law_put_otherwise [.list way, .int c] = .ok s ∧ (s = .own w ∨ s = .dat (.list w)) ∧ LW w ∧ w.length ≤ way.length + 1 := fun w a b c => ⟨_, w, a, .inr rfl, b, c⟩
    unfold F__law_put_otherwise runF g__law_put_otherwise at key
    by_cases h5 : c % 5 = 4
    · have hw0 : way = [] := List.length_eq_zero_iff.mp (hcc h5)
      subst hw0
      rcases h3 with h3 | h3 | h3
      · exact key (T ++ [d] ++ D) (by simp at hat' e1 e2 e3 ⊢; simp [h5, h3, e1, e2, e3, hat', hz, q1, q2, q3, q4, q5, q6]) (((hw.lw.sub m1).app one).app (hw.lw.sub m2)) (by simp only [List.length_append, List.length_cons, List.length_nil] at l1 ⊢; omega)
      · exact key (T ++ E) (by simp at hat' e1 e2 e3 ⊢; simp [h5, h3, e1, e2, e3, hat', hz, q1, q2, q3, q4, q5, q6]) ((hw.lw.sub m1).app (hw.lw.sub m3)) (by simp only [List.length_append, List.length_cons, List.length_nil] at l2 ⊢; omega)
      · exact key (T ++ [d] ++ E) (by simp at hat' e1 e2 e3 ⊢; simp [h5, h3, e1, e2, e3, hat', hz, q1, q2, q3, q4, q5, q6]) (((hw.lw.sub m1).app one).app (hw.lw.sub m3)) (by simp only [List.length_append, List.length_cons, List.length_nil] at l2 ⊢; omega)
    · rcases h3 with h3 | h3 | h3
      · exact key (T ++ [d] ++ D) (by simp [h5, h3, e1, e2, e3, hat', hz, hne, q1, q2, q3, q4, q5, q6]) (((hw.lw.sub m1).app one).app (hw.lw.sub m2)) (by simp; omega)
      · exact key (T ++ E) (by simp [h5, h3, e1, e2, e3, hat', hz, hne, q1, q2, q3, q4, q5, q6]) ((hw.lw.sub m1).app (hw.lw.sub m3)) (by simp; omega)
      · exact key (T ++ [d] ++ E) (by simp [h5, h3, e1, e2, e3, hat', hz, hne, q1, q2, q3, q4, q5, q6]) (((hw.lw.sub m1).app one).app (hw.lw.sub m3)) (by simp; omega)
/-! ### the text changed -/
theorem changed_ok (t : Str) (ht : t.length ≤ 1000) (c h : Int) : ∃ t' : Str, F__law_changed [.str t, .int c, .int h] = .ok (.dat (.str t')) ∧ t'.length ≤ 3000 := by
  have hz := szl
  have m3 : t.length ≤ 16777216 := by omega
  have hm : ∃ v : Int, atI [PyData.int h, .int (h / 95)] (c / 3 % 2) = some (.int v) := by
    rcases mod2 (c / 3) with e | e
    · exact ⟨h, by rw [e]; rfl⟩
    · exact ⟨h / 95, by rw [e]; rfl⟩
  obtain ⟨v, hv⟩ := hm
  obtain ⟨x, lx, hx⟩ := sign_ok v
  obtain ⟨L, hL⟩ : ∃ L : Int, (t.length : Int) = L := ⟨_, rfl⟩
  have hp : 0 < L + 1 := by omega
  obtain ⟨A, hA⟩ : ∃ A : Int, c / 6 % (L + 1) = A := ⟨_, rfl⟩
  have l1 : (cutS t none (some A)).length ≤ 1000 := Nat.le_trans (cutS_length _ _ _) ht
  have l2 : (cutS t (some A) none).length ≤ 1000 := Nat.le_trans (cutS_length _ _ _) ht
  have l3 : (cutS t (some (A + 1)) none).length ≤ 1000 := Nat.le_trans (cutS_length _ _ _) ht
  have lx1 : (⟨#[x]⟩ : Str).length = 1 := rfl
  have n1 : (cutS t none (some A) ++ ⟨#[x]⟩ ++ cutS t (some A) none).length = (cutS t none (some A)).length + 1 + (cutS t (some A) none).length := by rw [app_len, app_len, lx1]
  have n2 : (cutS t none (some A) ++ cutS t (some (A + 1)) none).length = (cutS t none (some A)).length + (cutS t (some (A + 1)) none).length := app_len _ _
  have n3 : (cutS t none (some A) ++ ⟨#[x]⟩ ++ cutS t (some (A + 1)) none).length = (cutS t none (some A)).length + 1 + (cutS t (some (A + 1)) none).length := by rw [app_len, app_len, lx1]
  have a1 : (cutS t none (some A)).length + 1 ≤ 16777216 := by omega
  have b1 : (cutS t none (some A)).length + 1 + (cutS t (some A) none).length ≤ 16777216 := by omega
  have b2 : (cutS t none (some A)).length + (cutS t (some (A + 1)) none).length ≤ 16777216 := by omega
  have b3 : (cutS t none (some A)).length + 1 + (cutS t (some (A + 1)) none).length ≤ 16777216 := by omega
  have m1 : t.length ≤ 16777216 := m3
  unfold F__law_changed runF g__law_changed
  rcases mod3 c with e | e | e
  · refine ⟨_, ?_, Nat.le_trans (Nat.le_of_eq n1) (by omega)⟩
    simp [hz, m1, hL, hp, hA, hv, hx, e, a1, b1, b2, b3, lx1]
  · refine ⟨_, ?_, Nat.le_trans (Nat.le_of_eq n2) (by omega)⟩
    simp [hz, m1, hL, hp, hA, hv, hx, e, a1, b1, b2, b3, lx1]
  · refine ⟨_, ?_, Nat.le_trans (Nat.le_of_eq n3) (by omega)⟩
    simp [hz, m1, hL, hp, hA, hv, hx, e, a1, b1, b2, b3, lx1]
end GM

namespace GM
open PySem PySem.Spec L2
/-! ### the end -/
theorem refused_ok (D t w : PyData) (h : F_walk [D, t, w] = .err .way) : F__law_refused [D, t, w] = .ok (.dat (.bool true)) := by
  unfold F__law_refused runF g__law_refused
  simp [b__law_refused_0, h, fb__law_refused]
theorem one_loop (a b c d e f g i : Sl) : ∀ (ys : List (List Th × Nat)) (s8 : Sl), ∃ s8', forL (gtN 8) b_law_2 (ys.map st) [a, b, c, d, e, f, g, i, s8] = .ok .nx [a, b, c, d, e, f, g, i, s8'] := by
  intro ys
  induction ys with
  | nil => intro s8; exact ⟨s8, rfl⟩
  | cons y ys ih =>
    intro s8
    obtain ⟨s8', h⟩ := ih (.dat (st y))
    refine ⟨s8', ?_⟩
    rw [← h, List.map_cons, forL]
    simp [-forL, b_law_2, st]
theorem tail_ok (z h : Sl) (e : Ent) (g : Good e) (hd : e.p.dep ≤ 33) (hw : wp e.p ≤ 48) (hn : (nums e.p).Nodup) (t : Str) (ht : t.length ≤ 1000000) (w : List PyData) (lw : LW w) (hl : w.length ≤ 170000) (s4 : Sl) (h4 : s4 = .own w ∨ s4 = .dat (.list w)) :
    ∃ r, t_law_6 [z, h, .dat (pr e), .dat (.str t), s4, .emp, .emp, .emp, .emp] = .ok (.rt (.dat (.bool true))) r := by
  obtain ⟨g1, g2, g3, g4⟩ := g
  have hP : Closed fun y => thOk 60 y ∧ wth y ≤ 48 := closed_and closed_ok (closed_w 48 (by decide))
  have h0 : ∀ y ∈ [Th.p e.p], thOk 60 y ∧ wth y ≤ 48 := fun y hy => by
    simp at hy
    subst hy
    exact ⟨⟨g1, by omega⟩, hw⟩
  obtain ⟨xs, r, hr, x1, x2⟩ := run_ex t w 48 _ hP (fun y hy => hy.2) w.length (wp e.p) ([.p e.p], 0) 0 (by simp) (by simp [wst, wth]) h0 (Nat.zero_le _)
  have xle := run_le hr (Nat.zero_le _)
  have hlen : wp e.p + w.length * (48 + 1) ≤ 14000000 := by omega
  have p4 : e.p.parts.length ≤ 4000 := Nat.le_trans (parts_wp _) (by omega)
  have y1 : ∀ y ∈ xs, y.1.length ≤ 16000000 := fun y hy => by have := (x2 y hy).2; omega
  have hall : ∀ y ∈ ([Th.p e.p], 0) :: xs, ∀ z ∈ y.1, thOk 60 z := fun y hy => by
    rcases List.mem_cons.mp hy with rfl | hy
    · exact fun z hz => (h0 z hz).1
    · exact fun z hz => ((x2 y hy).1 z hz).1
  have hxl : xs.length ≤ 15000000 := by omega
  obtain ⟨d1, d2⟩ := walked_ok e.p t ht w hr (fun y hy => ⟨y1 y hy, xle y hy⟩) hxl hall
  obtain ⟨k1, k2⟩ := walk_ok e.p g2 p4 hn t ht w hr y1 hxl
  have hq : fEq (.list w) (.list w) = some true := eq_self _ (fun d hd => (lw d hd).1) (fun d hd => by have := (lw d hd).2; omega)
  have hz := szl
  have hwl : w.length ≤ 16777216 := by omega
  by_cases hf : fits t w r
  · have dd := d1 hf
    have kk := k1 hf
    have hq3 : fEq (.list ((([Th.p e.p], 0) :: xs).map st)) (.list ((([Th.p e.p], 0) :: xs).map st)) = some true := eq_self _ (fun d hd => by
      obtain ⟨y, hy, rfl⟩ := List.mem_map.mp hd
      exact (st_lay y (hall y hy)).1) (fun d hd => by
      obtain ⟨y, hy, rfl⟩ := List.mem_map.mp hd
      have := (st_lay y (hall y hy)).2
      omega)
    obtain ⟨s8, l1⟩ := one_loop z h (.dat (pr e)) (.dat (.str t)) (.dat (.list w)) (.dat (.list ((([Th.p e.p], 0) :: xs).map st))) (.dat (.list w)) (.dat (.list ((([Th.p e.p], 0) :: xs).map st))) (([Th.p e.p], 0) :: xs) .emp
    generalize (([Th.p e.p], 0) :: xs).map st = L at *
    refine ⟨[z, h, .dat (pr e), .dat (.str t), .dat (.list w), .dat (.list L), .dat (.list w), .dat (.list L), s8], ?_⟩
    unfold t_law_6 t_law_7 t_law_8 t_law_9 t_law_10 t_law_11 t_law_12 b_law_0 b_law_1
    rcases h4 with rfl | rfl <;> simp [-forL, dd, kk, hq, l1, hq3, boolD, hz, hwl]
  · have dd := d2 hf
    have kk := k2 hf
    have rr := refused_ok _ _ _ kk
    refine ⟨[z, h, .dat (pr e), .dat (.str t), .dat (.list w), .dat .none, .dat (.list w), .dat .none, .emp], ?_⟩
    unfold t_law_6 t_law_7 t_law_8 t_law_9 t_law_10 t_law_11 t_law_12 b_law_0 b_law_1
    rcases h4 with rfl | rfl <;> simp [-forL, dd, kk, rr, hq, boolD, hz, hwl]
theorem law_ok (ns : List Int) (hns : ns.length ≤ 63) : F_law [intL ns] = .ok (.dat (.bool true)) := by
  obtain ⟨i, hi⟩ := cell_at_ok ns 0
  have hi' : F__law_cell_at [intL ns, .int 0] = .ok (.dat (.int i)) := hi
  obtain ⟨j, hj⟩ := cell_at_ok ns 1
  have hj' : F__law_cell_at [intL ns, .int 1] = .ok (.dat (.int j)) := hj
  obtain ⟨k, hk⟩ := cell_at_ok ns 2
  have hk' : F__law_cell_at [intL ns, .int 2] = .ok (.dat (.int k)) := hk
  have l1 : (cutL ns (some 3) (some 19)).length ≤ 16 := cutL_nat ns 3 19
  obtain ⟨e, he, g, hd, hw, hn, hu, hv⟩ := made_ok (cutL ns (some 3) (some 19)) i l1
  have he' : F__law_made [.list ((cutL ns (some 3) (some 19)).map PyData.int), .int i] = .ok (.dat (pr e)) := he
  have e1 : dSl (dVar 0) (oSome (dC (.int 3))) (oSome (dC (.int 19))) [.dat (intL ns), .dat (.int i), .emp, .emp, .emp, .emp, .emp, .emp, .emp] = .ok (.own ((cutL ns (some 3) (some 19)).map PyData.int)) [.dat (intL ns), .dat (.int i), .emp, .emp, .emp, .emp, .emp, .emp, .emp] := by
    simp [intL, cutL_map]
  have hz := szl
  obtain ⟨t2, ht2, hl2⟩ := changed_ok e.t (by omega) k i
  obtain ⟨s, w2, hp, hs, lw2, hlw⟩ := put_ok e.w g.2.2.1 (by omega) k
  have fin : ∀ (t : Str) (s4 : Sl) (w3 : List PyData), t.length ≤ 1000000 → (s4 = .own w3 ∨ s4 = .dat (.list w3)) → LW w3 → w3.length ≤ 170000 → ∃ r, t_law_6 [.dat (intL ns), .dat (.int i), .dat (pr e), .dat (.str t), s4, .emp, .emp, .emp, .emp] = .ok (.rt (.dat (.bool true))) r := fun t s4 w3 q0 q1 q2 q3 => tail_ok _ _ e g hd hw hn t q0 w3 q2 q3 s4 q1
  unfold F_law runF g_law t_law_0 t_law_1 t_law_2 t_law_3 t_law_4 t_law_5
  by_cases h1 : j % 4 = 1
  · obtain ⟨r, hr⟩ := fin t2 (.dat (.list e.w)) e.w (by omega) (.inr rfl) g.2.2.1.lw (by omega)
    generalize t_law_6 = T at *
    simp [e1, -dSl, hi', hj', hk', he', h1, ht2, hr]
  · by_cases h2 : j % 4 = 2
    · obtain ⟨r, hr⟩ := fin e.t s w2 (by omega) hs lw2 (by omega)
      generalize t_law_6 = T at *
      rcases hs with rfl | rfl <;> simp [e1, -dSl, hi', hj', hk', he', h2, hp, hr]
    · obtain ⟨r, hr⟩ := fin e.t (.dat (.list e.w)) e.w (by omega) (.inr rfl) g.2.2.1.lw (by omega)
      generalize t_law_6 = T at *
      simp [e1, -dSl, hi', hj', hk', he', h1, h2, hr]
end GM

open PySem PySem.W PyProof.Rows
set_option maxHeartbeats 0 in
theorem PySem.Challenge.cw_groupmarks_k05_ways_walked_holds : PySem.Challenge.rw_groupmarks_k05_ways_walked.Holds := by
  w_on; o_law; k_head; (case hw => w_witness2)
  k_fill
  refine L2.walk_of (l := PySem.Challenge.rw_groupmarks_k05_ways_walked) (n := 63) (k := 7) (x := "_law_script") (CX := fun w => L2N.CX (PySem.Challenge.rw_groupmarks_k05_ways_walked).prog w) (sp := fun w => GM.spL _ 1 GM.F_law) rfl (by decide) rfl ⟨rfl, by decide, by decide⟩ (fun w h Y => PySem.W.kIn_of Y) ?F (fun _ H a ns hl _ hS => GM.law_spL hS (GM.law_ok ns hl)) (fun _ _ _ _ _ z => GM.no_cx z)
  case F =>
    intro w mg fa h KX G hmg
    refine' GM.all_mk KX G hmg ?a0 ?l0 ?c0 ?k0 ?a1 ?l1 ?c1 ?k1 ?a2 ?l2 ?c2 ?k2 ?a3 ?l3 ?c3 ?k3 ?a4 ?l4 ?c4 ?k4 ?a5 ?l5 ?c5 ?k5 ?a6 ?l6 ?c6 ?k6 ?a7 ?l7 ?c7 ?k7 ?a8 ?l8 ?c8 ?k8 ?a9 ?l9 ?c9 ?k9 ?a10 ?l10 ?c10 ?k10 ?a11 ?l11 ?c11 ?k11 ?a12 ?l12 ?c12 ?k12 ?a13 ?l13 ?c13 ?k13 ?a14 ?l14 ?c14 ?k14 ?a15 ?l15 ?c15 ?k15 ?a16 ?l16 ?c16 ?k16 ?a17 ?l17 ?c17 ?k17 ?a18 ?l18 ?c18 ?k18 ?a19 ?l19 ?c19 ?k19 ?a20 ?l20 ?c20 ?k20 ?a21 ?l21 ?c21 ?k21 ?a22 ?l22 ?c22 ?k22 ?a23 ?l23 ?c23 ?k23 ?a24 ?l24 ?c24 ?k24 ?z_len ?z_isinstance ?z_reversed ?z_range ?z_zip ?z_bool ?z_int ?z_str ?z_tuple ?z_list ?z_dict ?z_set ?a_bad ?x_bad ?k_bad ?b_bad ?t_bad ?d_bad ?a_twice ?x_twice ?k_twice ?b_twice ?t_twice ?d_twice ?a_empt ?x_empt ?k_empt ?b_empt ?t_empt ?d_empt ?a_way ?x_way ?k_way ?b_way ?t_way ?d_way ?s_bad_way ?s_twice_way ?s_empt_way ?s_way_way ?a_mark ?b_mark ?t_mark ?d_mark ?z_VE ?hn_c ?ht_c ?sm_bad ?hg_bad ?hk_bad ?ha_bad ?hm_bad ?kv_bad ?kk_bad_bad ?kk_bad_twice ?kk_bad_empt ?kk_bad_way ?sm_twice ?hg_twice ?hk_twice ?ha_twice ?hm_twice ?kv_twice ?kk_twice_bad ?kk_twice_twice ?kk_twice_empt ?kk_twice_way ?sm_empt ?hg_empt ?hk_empt ?ha_empt ?hm_empt ?kv_empt ?kk_empt_bad ?kk_empt_twice ?kk_empt_empt ?kk_empt_way ?sm_way ?hg_way ?hk_way ?ha_way ?hm_way ?kv_way ?kk_way_bad ?kk_way_twice ?kk_way_empt ?kk_way_way
    (case a0 => k_is); (case l0 => k_is); (case c0 => k_is); (case k0 => k_is); (case a1 => k_is); (case l1 => k_is); (case c1 => k_is); (case k1 => k_is); (case a2 => k_is); (case l2 => k_is); (case c2 => k_is); (case k2 => k_is); (case a3 => k_is); (case l3 => k_is); (case c3 => k_is); (case k3 => k_is); (case a4 => k_is); (case l4 => k_is); (case c4 => k_is); (case k4 => k_is); (case a5 => k_is); (case l5 => k_is); (case c5 => k_is); (case k5 => k_is); (case a6 => k_is); (case l6 => k_is); (case c6 => k_is); (case k6 => k_is); (case a7 => k_is); (case l7 => k_is); (case c7 => k_is); (case k7 => k_is); (case a8 => k_is); (case l8 => k_is); (case c8 => k_is); (case k8 => k_is); (case a9 => k_is); (case l9 => k_is); (case c9 => k_is); (case k9 => k_is); (case a10 => k_is); (case l10 => k_is); (case c10 => k_is); (case k10 => k_is); (case a11 => k_is); (case l11 => k_is); (case c11 => k_is); (case k11 => k_is); (case a12 => k_is); (case l12 => k_is); (case c12 => k_is); (case k12 => k_is); (case a13 => k_is); (case l13 => k_is); (case c13 => k_is); (case k13 => k_is); (case a14 => k_is); (case l14 => k_is); (case c14 => k_is); (case k14 => k_is); (case a15 => k_is); (case l15 => k_is); (case c15 => k_is); (case k15 => k_is); (case a16 => k_is); (case l16 => k_is); (case c16 => k_is); (case k16 => k_is); (case a17 => k_is); (case l17 => k_is); (case c17 => k_is); (case k17 => k_is); (case a18 => k_is); (case l18 => k_is); (case c18 => k_is); (case k18 => k_is); (case a19 => k_is); (case l19 => k_is); (case c19 => k_is); (case k19 => k_is); (case a20 => k_is); (case l20 => k_is); (case c20 => k_is); (case k20 => k_is); (case a21 => k_is); (case l21 => k_is); (case c21 => k_is); (case k21 => k_is); (case a22 => k_is); (case l22 => k_is); (case c22 => k_is); (case k22 => k_is); (case a23 => k_is); (case l23 => k_is); (case c23 => k_is); (case k23 => k_is); (case a24 => k_is); (case l24 => k_is); (case c24 => k_is); (case k24 => k_is); (case z_len => k_is); (case z_isinstance => k_is); (case z_reversed => k_is); (case z_range => k_is); (case z_zip => k_is); (case z_bool => k_is); (case z_int => k_is); (case z_str => k_is); (case z_tuple => k_is); (case z_list => k_is); (case z_dict => k_is); (case z_set => k_is); (case a_bad => k_is); (case x_bad => k_exc); (case k_bad => k_is); (case b_bad => k_is); (case t_bad => k_is); (case d_bad => k_is); (case a_twice => k_is); (case x_twice => k_exc); (case k_twice => k_is); (case b_twice => k_is); (case t_twice => k_is); (case d_twice => k_is); (case a_empt => k_is); (case x_empt => k_exc); (case k_empt => k_is); (case b_empt => k_is); (case t_empt => k_is); (case d_empt => k_is); (case a_way => k_is); (case x_way => k_exc); (case k_way => k_is); (case b_way => k_is); (case t_way => k_is); (case d_way => k_is); (case s_bad_way => k_is); (case s_twice_way => k_is); (case s_empt_way => k_is); (case s_way_way => k_is); (case a_mark => k_is); (case b_mark => k_is); (case t_mark => k_is); (case d_mark => k_is); (case z_VE => k_is); (case hn_c => k_is); (case ht_c => k_is); (case sm_bad => k_is); (case hg_bad => k_is); (case hk_bad => k_is); (case ha_bad => k_is); (case hm_bad => k_is); (case kv_bad => kit_is); (case kk_bad_bad => kit_is); (case kk_bad_twice => kit_is); (case kk_bad_empt => kit_is); (case kk_bad_way => kit_is); (case sm_twice => k_is); (case hg_twice => k_is); (case hk_twice => k_is); (case ha_twice => k_is); (case hm_twice => k_is); (case kv_twice => kit_is); (case kk_twice_bad => kit_is); (case kk_twice_twice => kit_is); (case kk_twice_empt => kit_is); (case kk_twice_way => kit_is); (case sm_empt => k_is); (case hg_empt => k_is); (case hk_empt => k_is); (case ha_empt => k_is); (case hm_empt => k_is); (case kv_empt => kit_is); (case kk_empt_bad => kit_is); (case kk_empt_twice => kit_is); (case kk_empt_empt => kit_is); (case kk_empt_way => kit_is); (case sm_way => k_is); (case hg_way => k_is); (case hk_way => k_is); (case ha_way => k_is); (case hm_way => k_is); (case kv_way => kit_is); (case kk_way_bad => kit_is); (case kk_way_twice => kit_is); (case kk_way_empt => kit_is); (case kk_way_way => kit_is)
