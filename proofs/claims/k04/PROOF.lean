import PyProof.Rows.All
import Wide.All
import OpenK.AllK
import Wide.FinOn
import HandS.ForMost
import HandS.ForExc
import HandS.TupAny
import PyProof.StrBlock2
import HandS.IsInst
import PySem.Challenge.RW_groupmarks_k04_where_a_state_leads
set_option Elab.async false
set_option linter.all false
set_option maxRecDepth 100000
set_option autoImplicit false
/-! A layer of my own over the hand layer: readings over plain data (PyData), no heap in sight. -/
namespace GM
open PySem PySem.Spec L2

/-! ### data, slots, outcomes -/
inductive Er where
  | bad | twice | empt | way
  deriving DecidableEq
/-- what a slot holds: nothing, data, a list of one's own, a dict of one's own -/
inductive Sl where
  | emp
  | dat (d : PyData)
  | own (l : List PyData)
  | dic (l : List (Key × PyData))
abbrev En := List Sl
inductive Out (α : Type) where
  | ok (a : α) (r : En)
  | err (c : Er) (r : En)
  | bot
def Out.bind {α β : Type} : Out α → (α → En → Out β) → Out β
  | .ok a r, f => f a r
  | .err c r, _ => .err c r
  | .bot, _ => .bot
@[simp] theorem bind_ok {α β : Type} (a : α) (r : En) (f : α → En → Out β) : (Out.ok a r).bind f = f a r := rfl
@[simp] theorem bind_err {α β : Type} (c : Er) (r : En) (f : α → En → Out β) : (Out.err c r : Out α).bind f = .err c r := rfl
@[simp] theorem bind_bot {α β : Type} (f : α → En → Out β) : (Out.bot : Out α).bind f = .bot := rfl
@[simp] def ofO {α : Type} : Option α → En → Out α
  | some a, r => .ok a r
  | none, _ => .bot
inductive Res where
  | ok (s : Sl)
  | err (c : Er)
  | bot
def Sl.mine : Sl → Bool
  | .own _ => true
  | .dic _ => true
  | _ => false

/-! ### Same carries data -/
theorem same_upd {H : Hp} {p : Addr} {o : HO} (h : H p = none) : Same H (upd H p o) := fun b x e => by
  rw [upd_ne (ne_of_none e h)]
  exact e
theorem same_mut {B H : Hp} {p : Addr} {o : HO} (s : Same B H) (h : B p = none) : Same B (upd H p o) := fun b x e => by
  rw [upd_ne (ne_of_none e h)]
  exact s b x e
theorem same_t {K : PySem.W.Frag} {H H' : Hp} {a : Addr} {xs : List V} (e : Same H H') (h : SqT K H a xs) : SqT K H' a xs := by
  rcases h with (h | ⟨o, h⟩) | h
  · exact .inl (.inl (e _ _ h))
  · exact .inl (.inr ⟨o, e _ _ h⟩)
  · exact .inr h
mutual
theorem dp_same {K : PySem.W.Frag} {G G' : Hp} (e : Same G G') : ∀ (d : PyData) (v : V), Dp K G v d → Dp K G' v d
  | .none, _, h => by cases h; exact .non
  | .bool _, _, h => by cases h; exact .bl _
  | .int _, _, h => by cases h; exact .int _
  | .str _, _, h => by cases h; exact .str _
  | .list ds, _, h => by
    cases h with
    | lst h1 h2 => exact .lst (e.seq h1) (dpAll_same e ds _ h2)
  | .tuple ds, _, h => by
    cases h with
    | tup h1 h2 => exact .tup (same_t e h1) (dpAll_same e ds _ h2)
  | .dict _, _, h => by cases h
theorem dpAll_same {K : PySem.W.Frag} {G G' : Hp} (e : Same G G') : ∀ (ds : List PyData) (vs : List V), DpAll K G vs ds → DpAll K G' vs ds
  | [], _, h => by cases h; exact .nil
  | d :: ds, _, h => by
    cases h with
    | cons h1 h2 => exact .cons (dp_same e d _ h1) (dpAll_same e ds _ h2)
end
section
variable {K : PySem.W.Frag} {G : Hp}
theorem dpAll_len : ∀ {vs : List V} {ds : List PyData}, DpAll K G vs ds → vs.length = ds.length
  | _, _, .nil => rfl
  | _, _, .cons _ t => by rw [List.length_cons, List.length_cons, dpAll_len t]
theorem dpAll_get : ∀ {vs : List V} {ds : List PyData}, DpAll K G vs ds → ∀ (i : Nat) (d : PyData), ds[i]? = some d → ∃ v, vs[i]? = some v ∧ Dp K G v d
  | _, _, .nil, i, d, h => by simp at h
  | _, _, .cons r t, 0, d, h => by
    simp at h
    subst h
    exact ⟨_, rfl, r⟩
  | _, _, .cons r t, i + 1, d, h => by
    obtain ⟨v, h1, h2⟩ := dpAll_get t i d (by simpa using h)
    exact ⟨v, by simpa using h1, h2⟩
theorem dpAll_append : ∀ {vs ws : List V} {ds es : List PyData}, DpAll K G vs ds → DpAll K G ws es → DpAll K G (vs ++ ws) (ds ++ es)
  | _, _, _, _, .nil, h => h
  | _, _, _, _, .cons r t, h => .cons r (dpAll_append t h)
theorem dpAll_take : ∀ {vs : List V} {ds : List PyData} (n : Nat), DpAll K G vs ds → DpAll K G (vs.take n) (ds.take n)
  | _, _, 0, _ => .nil
  | _, _, _ + 1, .nil => .nil
  | _, _, n + 1, .cons r t => .cons r (dpAll_take n t)
theorem dpAll_drop : ∀ {vs : List V} {ds : List PyData} (n : Nat), DpAll K G vs ds → DpAll K G (vs.drop n) (ds.drop n)
  | _, _, 0, h => h
  | _, _, _ + 1, .nil => .nil
  | _, _, n + 1, .cons _ t => dpAll_drop n t
theorem dpAll_reverse {vs : List V} {ds : List PyData} (h : DpAll K G vs ds) : DpAll K G vs.reverse ds.reverse := by
  match vs, ds, h with
  | _, _, .nil => exact .nil
  | _, _, .cons r t =>
    rw [List.reverse_cons, List.reverse_cons]
    exact dpAll_append (dpAll_reverse t) (.cons r .nil)
theorem dpAll_dropLast {vs : List V} {ds : List PyData} (h : DpAll K G vs ds) : DpAll K G vs.dropLast ds.dropLast := by
  rw [List.dropLast_eq_take, List.dropLast_eq_take, dpAll_len h]
  exact dpAll_take _ h
theorem dpAll_ints : ∀ ns : List Int, DpAll K G (ns.map V.int) (ns.map PyData.int)
  | [] => .nil
  | _ :: ns => .cons (.int _) (dpAll_ints ns)
end
/-- the pairs of a dict -/
def KvAll (K : PySem.W.Frag) (G : Hp) (kvs : List (Key × V)) (l : List (Key × PyData)) : Prop := kvs.map (·.1) = l.map (·.1) ∧ DpAll K G (kvs.map (·.2)) (l.map (·.2))
theorem kvAll_same {K : PySem.W.Frag} {G G' : Hp} (e : Same G G') {kvs : List (Key × V)} {l : List (Key × PyData)} (h : KvAll K G kvs l) : KvAll K G' kvs l := ⟨h.1, dpAll_same e _ _ h.2⟩

/-! ### the environment -/
def SlOk (K : PySem.W.Frag) (B G H : Hp) (v : Option V) : Sl → Prop
  | .emp => True
  | .dat d => ∃ x, v = some x ∧ Dp K G x d
  | .own l => ∃ p vs, v = some (.ref p) ∧ G p = none ∧ B p = none ∧ H p = some (.lst vs) ∧ DpAll K G vs l
  | .dic l => ∃ p kvs, v = some (.ref p) ∧ G p = none ∧ B p = none ∧ H p = some (.dK kvs) ∧ KvAll K G kvs l
def MineAt (σ : St) (r : En) (i : Nat) (p : Addr) : Prop := σ[i]? = some (some (.ref p)) ∧ ∃ s, r[i]? = some s ∧ s.mine = true
structure EO (K : PySem.W.Frag) (B G0 G H : Hp) (σ : St) (r : En) : Prop where
  bh : Same B H
  gh : Same G H
  gg : Same G0 G
  grow : ∀ p, G p ≠ none → G0 p ≠ none ∨ B p = none
  len : σ.length = r.length
  slot : ∀ (i : Nat) (s : Sl), r[i]? = some s → ∃ v, σ[i]? = some v ∧ SlOk K B G H v s
  dist : ∀ (i j : Nat) (p : Addr), MineAt σ r i p → MineAt σ r j p → i = j
/-- a value as a result -/
def VO (K : PySem.W.Frag) (B G H : Hp) (σ : St) (r : En) (v : V) : Sl → Prop
  | .emp => False
  | .dat d => Dp K G v d
  | .own l => ∃ p vs, v = .ref p ∧ G p = none ∧ B p = none ∧ H p = some (.lst vs) ∧ DpAll K G vs l ∧ ∀ i, ¬ MineAt σ r i p
  | .dic l => ∃ p kvs, v = .ref p ∧ G p = none ∧ B p = none ∧ H p = some (.dK kvs) ∧ KvAll K G kvs l ∧ ∀ i, ¬ MineAt σ r i p
section
variable {K : PySem.W.Frag} {B G0 G G' H H' : Hp} {σ : St} {r : En}
/-- an address of one's own -/
theorem EO.mine (e : EO K B G0 G H σ r) {i : Nat} {p : Addr} (m : MineAt σ r i p) : G p = none ∧ B p = none ∧ ∃ o, H p = some o := by
  obtain ⟨h1, s, h2, h3⟩ := m
  obtain ⟨v, h4, h5⟩ := e.slot i s h2
  rw [h1] at h4
  cases h4
  cases s with
  | emp => cases h3
  | dat d => cases h3
  | own l =>
    obtain ⟨q, vs, e1, e2, e3, e4, _⟩ := h5
    cases e1
    exact ⟨e2, e3, _, e4⟩
  | dic l =>
    obtain ⟨q, vs, e1, e2, e3, e4, _⟩ := h5
    cases e1
    exact ⟨e2, e3, _, e4⟩
theorem SlOk.mono {v : Option V} {s : Sl} (h : SlOk K B G H v s) (gg : Same G G') (keep : ∀ p, v = some (.ref p) → s.mine = true → H' p = H p ∧ G' p = none) : SlOk K B G' H' v s := by
  cases s with
  | emp => trivial
  | dat d =>
    obtain ⟨x, h1, h2⟩ := h
    exact ⟨x, h1, dp_same gg _ _ h2⟩
  | own l =>
    obtain ⟨p, vs, e1, e2, e3, e4, e5⟩ := h
    obtain ⟨k1, k2⟩ := keep p e1 rfl
    exact ⟨p, vs, e1, k2, e3, k1.trans e4, dpAll_same gg _ _ e5⟩
  | dic l =>
    obtain ⟨p, vs, e1, e2, e3, e4, e5⟩ := h
    obtain ⟨k1, k2⟩ := keep p e1 rfl
    exact ⟨p, vs, e1, k2, e3, k1.trans e4, kvAll_same gg e5⟩
/-- the general step: heaps grow, what is one's own stays -/
theorem EO.step (e : EO K B G0 G H σ r) (bh : Same B H') (gg : Same G G') (gh : Same G' H') (new : ∀ p, G' p ≠ none → G p ≠ none ∨ (B p = none ∧ ∀ i, ¬ MineAt σ r i p)) (keep : ∀ i p, MineAt σ r i p → H' p = H p) :
    EO K B G0 G' H' σ r := by
  refine ⟨bh, gh, fun p o h => gg p o (e.gg p o h), fun p h => ?_, e.len, fun i s hs => ?_, e.dist⟩
  · rcases new p h with h | h
    · exact e.grow p h
    · exact .inr h.1
  · obtain ⟨v, h1, h2⟩ := e.slot i s hs
    refine ⟨v, h1, h2.mono gg fun p hp hm => ?_⟩
    have m : MineAt σ r i p := ⟨by rw [h1, hp], s, hs, hm⟩
    refine ⟨keep i p m, ?_⟩
    cases q : G' p with
    | none => rfl
    | some o =>
      rcases new p (by rw [q]; exact fun z => nomatch z) with h | h
      · exact absurd (e.mine m).1 h
      · exact absurd m (h.2 i)
theorem EO.notMine (e : EO K B G0 G H σ r) {p : Addr} (h : H p = none) (i : Nat) : ¬ MineAt σ r i p := fun m => by
  obtain ⟨_, _, o, ho⟩ := e.mine m
  rw [h] at ho
  cases ho
/-- new data -/
theorem EO.newDat (e : EO K B G0 G H σ r) {p : Addr} {o : HO} (h : H p = none) : EO K B G0 (upd G p o) (upd H p o) σ r := by
  have hG : G p = none := e.gh.free h
  have hB : B p = none := e.bh.free h
  refine e.step (same_mut e.bh hB) (same_upd hG) ?_ (fun q hq => ?_) (fun i q m => ?_)
  · intro b x hb
    by_cases hbp : b = p
    · subst hbp
      rw [upd_same] at hb ⊢
      exact hb
    · rw [upd_ne hbp] at hb ⊢
      exact e.gh b x hb
  · by_cases hqp : q = p
    · subst hqp
      exact .inr ⟨hB, e.notMine h⟩
    · rw [upd_ne hqp] at hq
      exact .inl hq
  · have hqp : q ≠ p := fun z => e.notMine h i (z ▸ m)
    exact upd_ne hqp
/-- a new object that is one's own -/
theorem EO.newOwn (e : EO K B G0 G H σ r) {p : Addr} {o : HO} (h : H p = none) : EO K B G0 G (upd H p o) σ r := by
  have hG : G p = none := e.gh.free h
  have hB : B p = none := e.bh.free h
  refine e.step (same_mut e.bh hB) (Same.refl G) (same_mut e.gh hG) (fun q hq => .inl hq) (fun i q m => ?_)
  have hqp : q ≠ p := fun z => e.notMine h i (z ▸ m)
  exact upd_ne hqp
theorem EO.vOwn (e : EO K B G0 G H σ r) {p : Addr} {vs : List V} {l : List PyData} (h : H p = none) (d : DpAll K G vs l) : VO K B G (upd H p (.lst vs)) σ r (.ref p) (.own l) :=
  ⟨p, vs, rfl, e.gh.free h, e.bh.free h, upd_same, d, e.notMine h⟩
theorem EO.vDic (e : EO K B G0 G H σ r) {p : Addr} {vs : List (Key × V)} {l : List (Key × PyData)} (h : H p = none) (d : KvAll K G vs l) : VO K B G (upd H p (.dK vs)) σ r (.ref p) (.dic l) :=
  ⟨p, vs, rfl, e.gh.free h, e.bh.free h, upd_same, d, e.notMine h⟩
/-- a list of one's own becomes data -/
theorem EO.freeze (e : EO K B G0 G H σ r) {p : Addr} {vs : List V} (hG : G p = none) (hB : B p = none) (hH : H p = some (.lst vs)) (n : ∀ i, ¬ MineAt σ r i p) : EO K B G0 (upd G p (.lst vs)) H σ r := by
  refine e.step e.bh (same_upd hG) ?_ (fun q hq => ?_) (fun _ _ _ => rfl)
  · intro b x hb
    by_cases hbp : b = p
    · subst hbp
      rw [upd_same] at hb
      cases hb
      exact hH
    · rw [upd_ne hbp] at hb
      exact e.gh b x hb
  · by_cases hqp : q = p
    · subst hqp
      exact .inr ⟨hB, n⟩
    · rw [upd_ne hqp] at hq
      exact .inl hq
theorem VO.slOk {v : V} {s : Sl} (h : VO K B G H σ r v s) : SlOk K B G H (some v) s := by
  cases s with
  | emp => exact h.elim
  | dat d => exact ⟨v, rfl, h⟩
  | own l =>
    obtain ⟨p, vs, e1, e2, e3, e4, e5, _⟩ := h
    exact ⟨p, vs, by rw [e1], e2, e3, e4, e5⟩
  | dic l =>
    obtain ⟨p, vs, e1, e2, e3, e4, e5, _⟩ := h
    exact ⟨p, vs, by rw [e1], e2, e3, e4, e5⟩
theorem VO.notMine {v : V} {s : Sl} (h : VO K B G H σ r v s) {p : Addr} (hv : v = .ref p) (hs : s.mine = true) (i : Nat) : ¬ MineAt σ r i p := by
  cases s with
  | emp => cases hs
  | dat d => cases hs
  | own l =>
    obtain ⟨q, vs, e1, _, _, _, _, n⟩ := h
    rw [hv] at e1
    cases e1
    exact n i
  | dic l =>
    obtain ⟨q, vs, e1, _, _, _, _, n⟩ := h
    rw [hv] at e1
    cases e1
    exact n i
theorem get_set_cases {α : Type} {l : List α} {i j : Nat} {a b : α} (h : (l.set i a)[j]? = some b) : (j = i ∧ b = a ∧ i < l.length) ∨ (j ≠ i ∧ l[j]? = some b) := by
  by_cases hj : j = i
  · subst hj
    by_cases hl : j < l.length
    · rw [List.getElem?_set_self hl] at h
      exact .inl ⟨rfl, (Option.some.inj h).symm, hl⟩
    · have hl2 : (l.set j a).length ≤ j := by
        rw [List.length_set]
        omega
      rw [List.getElem?_eq_none hl2] at h
      cases h
  · rw [List.getElem?_set_ne (Ne.symm hj)] at h
    exact .inr ⟨hj, h⟩
theorem MineAt.set {i j : Nat} {p : Addr} {v : V} {s : Sl} (m : MineAt (σ.set i (some v)) (r.set i s) j p) : (j = i ∧ v = .ref p ∧ s.mine = true) ∨ (j ≠ i ∧ MineAt σ r j p) := by
  obtain ⟨h1, t, h2, h3⟩ := m
  rcases get_set_cases h1 with ⟨q1, q2, _⟩ | ⟨q1, q2⟩
  · rcases get_set_cases h2 with ⟨_, w2, _⟩ | ⟨w1, _⟩
    · exact .inl ⟨q1, (Option.some.inj q2).symm, w2 ▸ h3⟩
    · exact absurd q1 w1
  · rcases get_set_cases h2 with ⟨w1, _, _⟩ | ⟨_, w2⟩
    · exact absurd w1 q1
    · exact .inr ⟨q1, q2, t, w2, h3⟩
/-- a name is stored -/
theorem EO.set (e : EO K B G0 G H σ r) (i : Nat) {v : V} {s : Sl} (h : VO K B G H σ r v s) : EO K B G0 G H (σ.set i (some v)) (r.set i s) := by
  refine ⟨e.bh, e.gh, e.gg, e.grow, by simp [e.len], fun j t ht => ?_, fun j k p mj mk => ?_⟩
  · rcases get_set_cases ht with ⟨q1, q2, q3⟩ | ⟨q1, q2⟩
    · subst q1 q2
      exact ⟨some v, List.getElem?_set_self (by rw [e.len]; exact q3), h.slOk⟩
    · obtain ⟨w, h1, h2⟩ := e.slot j t q2
      exact ⟨w, by rw [List.getElem?_set_ne (Ne.symm q1)]; exact h1, h2⟩
  · rcases mj.set with ⟨a1, a2, a3⟩ | ⟨a1, a2⟩
    · rcases mk.set with ⟨b1, _, _⟩ | ⟨b1, b2⟩
      · rw [a1, b1]
      · exact absurd b2 (h.notMine a2 a3 k)
    · rcases mk.set with ⟨b1, b2, b3⟩ | ⟨b1, b2⟩
      · exact absurd a2 (h.notMine b2 b3 j)
      · exact e.dist j k p a2 b2
theorem mineAt_set_r {i j : Nat} {p : Addr} {s t : Sl} (hi : r[i]? = some t) (m : MineAt σ (r.set i s) j p) : (j = i ∧ s.mine = true ∧ σ[i]? = some (some (.ref p))) ∨ (j ≠ i ∧ MineAt σ r j p) := by
  obtain ⟨h1, u, h2, h3⟩ := m
  rcases get_set_cases h2 with ⟨w1, w2, _⟩ | ⟨w1, w2⟩
  · exact .inl ⟨w1, w2 ▸ h3, by rw [← w1]; exact h1⟩
  · exact .inr ⟨w1, h1, u, w2, h3⟩
/-- what is one's own is changed -/
theorem EO.mut (e : EO K B G0 G H σ r) {i : Nat} {p : Addr} {t s : Sl} {o : HO} (hs : σ[i]? = some (some (.ref p))) (hr : r[i]? = some t) (ht : t.mine = true) (hk : SlOk K B G (upd H p o) (some (.ref p)) s) (hm : s.mine = true) :
    EO K B G0 G (upd H p o) σ (r.set i s) := by
  have m : MineAt σ r i p := ⟨hs, t, hr, ht⟩
  obtain ⟨hG, hB, _⟩ := e.mine m
  have hi : i < r.length := (List.getElem?_eq_some_iff.mp hr).1
  refine ⟨same_mut e.bh hB, same_mut e.gh hG, e.gg, e.grow, by simp [e.len], fun j u hu => ?_, fun j k q mj mk => ?_⟩
  · rcases get_set_cases hu with ⟨q1, q2, q3⟩ | ⟨q1, q2⟩
    · subst q1 q2
      exact ⟨_, hs, hk⟩
    · obtain ⟨w, h1, h2⟩ := e.slot j u q2
      refine ⟨w, h1, h2.mono (Same.refl G) fun q hq hmu => ?_⟩
      have mj : MineAt σ r j q := ⟨by rw [h1, hq], u, q2, hmu⟩
      have hne : q ≠ p := fun z => q1 (e.dist j i p (z ▸ mj) m)
      exact ⟨upd_ne hne, (e.mine mj).1⟩
  · rcases mineAt_set_r hr mj with ⟨a1, a2, a3⟩ | ⟨a1, a2⟩
    · rcases mineAt_set_r hr mk with ⟨b1, _, _⟩ | ⟨b1, b2⟩
      · rw [a1, b1]
      · have : k = i := e.dist k i q b2 ⟨a3, t, hr, ht⟩
        exact absurd this b1
    · rcases mineAt_set_r hr mk with ⟨b1, b2, b3⟩ | ⟨b1, b2⟩
      · have : j = i := e.dist j i q a2 ⟨b3, t, hr, ht⟩
        exact absurd this a1
      · exact e.dist j k q a2 b2
/-- a slot's list of one's own becomes data where it stands -/
theorem EO.freezeAt (e : EO K B G0 G H σ r) {i : Nat} {l : List PyData} (hr : r[i]? = some (.own l)) : ∃ p vs, σ[i]? = some (some (.ref p)) ∧ H p = some (.lst vs) ∧ G p = none ∧ EO K B G0 (upd G p (.lst vs)) H σ (r.set i (.dat (.list l))) ∧ Dp K (upd G p (.lst vs)) (.ref p) (.list l) := by
  obtain ⟨v, h1, h2⟩ := e.slot i _ hr
  obtain ⟨p, vs, rfl, hG, hB, hH, hd⟩ := h2
  have hi : i < r.length := (List.getElem?_eq_some_iff.mp hr).1
  have m : MineAt σ r i p := ⟨h1, _, hr, rfl⟩
  have sg : Same G (upd G p (.lst vs)) := same_upd hG
  have dd : Dp K (upd G p (.lst vs)) (.ref p) (.list l) := .lst (SqL.of upd_same) (dpAll_same sg _ _ hd)
  refine ⟨p, vs, h1, hH, hG, ⟨e.bh, ?_, fun q o h => sg q o (e.gg q o h), fun q hq => ?_, by simp [e.len], fun j u hu => ?_, fun j k q mj mk => ?_⟩, dd⟩
  · intro b x hb
    by_cases hbp : b = p
    · subst hbp
      rw [upd_same] at hb
      cases hb
      exact hH
    · rw [upd_ne hbp] at hb
      exact e.gh b x hb
  · by_cases hqp : q = p
    · subst hqp
      exact .inr hB
    · rw [upd_ne hqp] at hq
      exact e.grow q hq
  · rcases get_set_cases hu with ⟨q1, q2, q3⟩ | ⟨q1, q2⟩
    · subst q1 q2
      exact ⟨_, h1, _, rfl, dd⟩
    · obtain ⟨w, h3, h4⟩ := e.slot j u q2
      refine ⟨w, h3, h4.mono sg fun q hq hmu => ⟨rfl, ?_⟩⟩
      have mj : MineAt σ r j q := ⟨by rw [h3, hq], u, q2, hmu⟩
      have hne : q ≠ p := fun z => q1 (e.dist j i p (z ▸ mj) m)
      rw [upd_ne hne]
      exact (e.mine mj).1
  · rcases mineAt_set_r hr mj with ⟨_, a2, _⟩ | ⟨a1, a2⟩
    · cases a2
    · rcases mineAt_set_r hr mk with ⟨_, b2, _⟩ | ⟨b1, b2⟩
      · cases b2
      · exact e.dist j k q a2 b2
end
end GM

namespace GM
open PySem PySem.Spec L2

/-! ### judgements -/
abbrev Rl (α β : Type) := PySem.W.Frag → Hp → St → Hp → Hp → En → β → α → Prop
def rD : Rl PyData V := fun K _ _ G _ _ v d => Dp K G v d
def rS : Rl Sl V := fun K B σ G H r v s => VO K B G H σ r v s
def rA : Rl (List PyData) (List V) := fun K _ _ G _ _ vs ds => DpAll K G vs ds
def rI (α : Type) : Rl α α := fun _ _ _ _ _ _ b a => b = a
section
variable {α β γ δ : Type}
/-- what is wanted of an outcome -/
def Post (R : Rl α β) (K : PySem.W.Frag) (W : WX) (C : Er → Addr) (B G0 G : Hp) (σ : St) (Q : β → Hp → Prop) : Out α → Prop
  | .ok a r => ∀ b G' H', EO K B G0 G' H' σ r → Same G G' → R K B σ G' H' r b a → Q b H'
  | .err c r => ∀ G' H', EO K B G0 G' H' σ r → Same G G' → W (.ref (C c)) none σ H'
  | .bot => False
variable {R : Rl α β} {R2 : Rl γ δ} {K : PySem.W.Frag} {W : WX} {C : Er → Addr} {B G0 G G' : Hp} {σ : St}
theorem Post.up {Q : β → Hp → Prop} {o : Out α} (h : Post R K W C B G0 G σ Q o) (s : Same G G') : Post R K W C B G0 G' σ Q o := by
  cases o with
  | ok a r => exact fun b G2 H2 e s2 => h b G2 H2 e (s.trans s2)
  | err c r => exact fun G2 H2 e s2 => h G2 H2 e (s.trans s2)
  | bot => exact h
theorem Post.bind {Q2 : δ → Hp → Prop} {Q : β → Hp → Prop} {o : Out α} {f : α → En → Out γ} (h : Post R2 K W C B G0 G σ Q2 (o.bind f))
    (hk : ∀ a r b G' H', EO K B G0 G' H' σ r → Same G G' → R K B σ G' H' r b a → Post R2 K W C B G0 G' σ Q2 (f a r) → Q b H') : Post R K W C B G0 G σ Q o := by
  cases o with
  | ok a r => exact fun b G' H' e s hr => hk a r b G' H' e s hr (h.up s)
  | err c r => exact h
  | bot => exact h
theorem Post.one {Q : β → Hp → Prop} {a : α} {r : En} {b : β} {H : Hp} (h : Post R K W C B G0 G σ Q (.ok a r)) (e : EO K B G0 G H σ r) (hr : R K B σ G H r b a) : Q b H := h b G H e (Same.refl G) hr
theorem Post.map {ε : Type} {R3 : Rl γ β} {Q : β → Hp → Prop} {o : Out α} {f : α → γ} (h : Post R3 K W C B G0 G σ Q (o.bind fun a r => .ok (f a) r)) (hr : ∀ G' H' r b a, R K B σ G' H' r b a → R3 K B σ G' H' r b (f a)) : Post R K W C B G0 G σ Q o :=
  h.bind fun a r b G' H' e s hb q => q.one e (hr _ _ _ _ _ hb)
end
def J {α β : Type} (X : Cx) (W : WX) (C : Er → Addr) (R : Rl α β) (te : St → Hp → (β → Hp → Prop) → Prop) (t : En → Out α) : Prop :=
  ∀ (B G0 G H : Hp) (σ : St) (r : En) (Q : β → Hp → Prop), EO X.K B G0 G H σ r → Post R X.K W C B G0 G σ Q (t r) → te σ H Q
/-- an expression as data; as what a slot may hold; arguments; a test; a part of a slice -/
structure Ed (X : Cx) (W : WX) (C : Er → Addr) (e : Expr) (t : En → Out PyData) : Prop where
  ex : ∃ te, PE X e te ∧ J X W C rD te t
structure Es (X : Cx) (W : WX) (C : Er → Addr) (e : Expr) (t : En → Out Sl) : Prop where
  ex : ∃ te, PE X e te ∧ J X W C rS te t
structure Ad (X : Cx) (W : WX) (C : Er → Addr) (es : List Expr) (t : En → Out (List PyData)) : Prop where
  ex : ∃ te, PA X es te ∧ J X W C rA te t
structure Td (X : Cx) (W : WX) (C : Er → Addr) (e : Expr) (t : En → Out Bool) : Prop where
  ex : ∃ te, PT X e te ∧ J X W C (rI Bool) te t
structure Wd (X : Cx) (W : WX) (C : Er → Addr) (e : Expr) (t : En → Out Bool) : Prop where
  ex : ∃ te, PW X e te ∧ J X W C (rI Bool) te t
structure Od (X : Cx) (W : WX) (C : Er → Addr) (e : Option Expr) (t : En → Out (Option Int)) : Prop where
  ex : ∃ te, PO X e te ∧ J X W C (rI (Option Int)) te t

/-! ### what they mean -/
@[simp] def slD : Sl → Option PyData
  | .dat d => some d
  | .own l => some (.list l)
  | _ => none
/-- a value of a slot as data (a list of one's own is handed over) -/
@[simp] def frz (t : En → Out Sl) : En → Out PyData := fun r => (t r).bind fun s r => ofO (slD s) r
@[simp] def dat (t : En → Out PyData) : En → Out Sl := fun r => (t r).bind fun d r => .ok (.dat d) r
@[simp] def dC (d : PyData) : En → Out PyData := fun r => .ok d r
@[simp] def dVar (i : Nat) : En → Out PyData := fun r => match r[i]? with
  | some (.dat d) => .ok d r
  | some (.own l) => .ok (.list l) (r.set i (.dat (.list l)))
  | _ => .bot
@[simp] def dNil : En → Out (List PyData) := fun r => .ok [] r
@[simp] def dCons (t : En → Out PyData) (u : En → Out (List PyData)) : En → Out (List PyData) := fun r => (t r).bind fun d r => (u r).bind fun ds r => .ok (d :: ds) r
@[simp] def dTup (t : En → Out (List PyData)) : En → Out PyData := fun r => (t r).bind fun ds r => .ok (.tuple ds) r
@[simp] def dLst (t : En → Out (List PyData)) : En → Out Sl := fun r => (t r).bind fun ds r => .ok (.own ds) r
@[simp] def op2 {α : Type} (f : PyData → PyData → Option α) (a b : En → Out PyData) : En → Out α := fun r => (a r).bind fun d r => (b r).bind fun e r => ofO (f d e) r
@[simp] def op1 {α : Type} (f : PyData → Option α) (a : En → Out PyData) : En → Out α := fun r => (a r).bind fun d r => ofO (f d) r

section
variable {X : Cx} {W : WX} {C : Er → Addr} {pos : Pos} {e a b : Expr} {es : List Expr}

theorem VO.data {K : PySem.W.Frag} {B G0 G H : Hp} {σ : St} {r : En} {v : V} {s : Sl} {d : PyData} (eo : EO K B G0 G H σ r) (h : VO K B G H σ r v s) (hd : slD s = some d) : ∃ G', EO K B G0 G' H σ r ∧ Same G G' ∧ Dp K G' v d := by
  cases s with
  | emp => cases hd
  | dat d' => cases hd; exact ⟨G, eo, Same.refl G, h⟩
  | own l =>
    cases hd
    obtain ⟨p, vs, rfl, hG, hB, hH, ha, n⟩ := h
    exact ⟨_, eo.freeze hG hB hH n, same_upd hG, .lst (SqL.of upd_same) (dpAll_same (same_upd hG) _ _ ha)⟩
  | dic l => cases hd

theorem Es.frz {t : En → Out Sl} (h : Es X W C e t) : Ed X W C e (frz t) := by
  obtain ⟨te, h1, h2⟩ := h.ex
  refine ⟨te, h1, fun B G0 G H σ r Q eo p => h2 B G0 G H σ r Q eo ?_⟩
  refine Post.bind (R2 := rD) p fun s r' v G' H' e' sg hv q => ?_
  cases hd : slD s with
  | none => rw [hd] at q; exact q.elim
  | some d =>
    rw [hd] at q
    obtain ⟨G2, e2, s2, hd2⟩ := VO.data e' hv hd
    exact q _ _ _ e2 s2 hd2
theorem Ed.dat {t : En → Out PyData} (h : Ed X W C e t) : Es X W C e (dat t) := by
  obtain ⟨te, h1, h2⟩ := h.ex
  refine ⟨te, h1, fun B G0 G H σ r Q eo p => h2 B G0 G H σ r Q eo ?_⟩
  exact Post.bind (R2 := rS) p fun d r' v G' H' e' sg hv q => q v G' H' e' (Same.refl _) hv

/-! ### constants, names -/
theorem d_const {v : V} {d : PyData} (h : PE X e (tC v)) (hd : ∀ K G, Dp K G v d) : Ed X W C e (dC d) :=
  ⟨_, h, fun B G0 G H σ r Q eo p => p v G H eo (Same.refl G) (hd _ _)⟩
theorem d_int {i j pos} : Ed X W C (.Constant (.int i) j pos) (dC (.int i)) := d_const pe_int fun _ _ => .int i
theorem d_str {x j pos} : Ed X W C (.Constant (.str x) j pos) (dC (.str x)) := d_const pe_str fun _ _ => .str x
theorem d_bl {x j pos} : Ed X W C (.Constant (.bool x) j pos) (dC (.bool x)) := d_const pe_bl fun _ _ => .bl x
theorem d_non {j pos} : Ed X W C (.Constant .none j pos) (dC .none) := d_const pe_non fun _ _ => .non
theorem d_var (i : Nat) {x : Str} (hN : X.N[i]? = some x := by rfl) (hv : Vis X.env.scope x := by first | exact Or.inl rfl | exact Or.inr (Or.inl rfl) | exact Or.inr (Or.inr rfl)) (hd : (x == ("__debug__" : Str)) = false := by decide)
    (hcd : (x == ("__classdict__" : Str)) = false := by decide) : Ed X W C (.Name x pos) (dVar i) := by
  refine ⟨_, pe_var hN hv hd hcd, fun B G0 G H σ r Q eo p => ?_⟩
  unfold dVar at p
  cases hr : r[i]? with
  | none => rw [hr] at p; exact p.elim
  | some s =>
    rw [hr] at p
    cases s with
    | emp => exact p.elim
    | dic l => exact p.elim
    | dat d =>
      obtain ⟨v, h1, x, rfl, h2⟩ := eo.slot i _ hr
      exact ⟨x, h1, p x G H eo (Same.refl G) h2⟩
    | own l =>
      obtain ⟨q, vs, h1, h2, h3, h4, h5⟩ := eo.freezeAt hr
      exact ⟨_, h1, p _ _ _ h4 (same_upd h3) h5⟩

/-! ### arguments, tuples, lists -/
theorem a_nil : Ad X W C [] dNil := ⟨_, pa_nil, fun B G0 G H σ r Q eo p => p [] G H eo (Same.refl G) .nil⟩
theorem a_cons {t : En → Out PyData} {u : En → Out (List PyData)} (h : Ed X W C e t) (k : Ad X W C es u) (hs : starEach (e :: es) X.env = (false, eval e X.env) :: starEach es X.env := by rfl) : Ad X W C (e :: es) (dCons t u) := by
  obtain ⟨te, h1, h2⟩ := h.ex
  obtain ⟨ue, k1, k2⟩ := k.ex
  refine ⟨_, pa_cons h1 k1 hs, fun B G0 G H σ r Q eo p => h2 B G0 G H σ r _ eo ?_⟩
  refine Post.bind (R2 := rA) p fun d r1 v G1 H1 e1 s1 hv q1 => ?_
  refine k2 B G0 G1 H1 σ r1 _ e1 ?_
  refine Post.bind (R2 := rA) q1 fun ds r2 vs G2 H2 e2 s2 hvs q2 => ?_
  exact q2 _ _ _ e2 (Same.refl _) (.cons (dp_same s2 _ _ hv) hvs)
theorem ad_len : ∀ {es : List Expr} {ta : TA}, PA X es ta → True := fun _ => trivial
/-- a display's length is its text's: told by the outcome -/
def Len (n : Nat) (t : En → Out (List PyData)) : Prop := ∀ r ds r', t r = .ok ds r' → ds.length = n
theorem len_nil : Len 0 dNil := fun r ds r' h => by
  cases h
  rfl
theorem len_cons {n : Nat} {t : En → Out PyData} {u : En → Out (List PyData)} (h : Len n u) : Len (n + 1) (dCons t u) := fun r ds r' q => by
  unfold dCons at q
  cases ht : t r with
  | err c r1 => rw [ht] at q; cases q
  | bot => rw [ht] at q; cases q
  | ok d r1 =>
    rw [ht] at q
    simp only [bind_ok] at q
    cases hu : u r1 with
    | err c r1 => rw [hu] at q; cases q
    | bot => rw [hu] at q; cases q
    | ok es r2 =>
      rw [hu] at q
      cases q
      rw [List.length_cons, h _ _ _ hu]
theorem Post.len {n : Nat} {t : En → Out (List PyData)} {K : PySem.W.Frag} {B G0 G : Hp} {σ : St} {r : En} {Q : List V → Hp → Prop} (l : Len n t)
    (h : Post rA K W C B G0 G σ (fun vs H => vs.length = n → Q vs H) (t r)) : Post rA K W C B G0 G σ Q (t r) := by
  cases ht : t r with
  | ok ds r1 =>
    rw [ht] at h
    exact fun b G' H' e s hr => h b G' H' e s hr (by rw [dpAll_len hr]; exact l _ _ _ ht)
  | err c r1 => rw [ht] at h; exact h
  | bot => rw [ht] at h; exact h
theorem d_tup {k : Nat} {n : Nat} {t : En → Out (List PyData)} (h : Ad X W C es t) (l : Len n t) (hn : n ≤ sizeLine := by decide) : Ed X W C (.Tuple es k pos) (dTup t) := by
  obtain ⟨te, h1, h2⟩ := h.ex
  refine ⟨_, pe_tup h1, fun B G0 G H σ r Q eo p => h2 B G0 G H σ r _ eo (Post.len l ?_)⟩
  refine Post.bind (R2 := rD) p fun ds r1 vs G1 H1 e1 s1 hvs q hl => ⟨by rw [hl]; exact hn, fun p' hp => ?_⟩
  have hG := e1.gh.free hp
  exact q _ _ _ (e1.newDat hp) (same_upd hG) (.tup (SqT.of upd_same) (dpAll_same (same_upd hG) _ _ hvs))
theorem s_lst {n : Nat} {t : En → Out (List PyData)} (h : Ad X W C es t) (l : Len n t) (hn : n ≤ sizeLine := by decide) : Es X W C (.List es pos) (dLst t) := by
  obtain ⟨te, h1, h2⟩ := h.ex
  refine ⟨_, pe_lst h1, fun B G0 G H σ r Q eo p => h2 B G0 G H σ r _ eo (Post.len l ?_)⟩
  refine Post.bind (R2 := rS) p fun ds r1 vs G1 H1 e1 s1 hvs q hl => ⟨by rw [hl]; exact hn, fun p' hp => ?_⟩
  exact q _ _ _ (e1.newOwn hp) (Same.refl _) (e1.vOwn hp hvs)

/-! ### two-place operations -/
def OpS (K : PySem.W.Frag) (rop : R2) (f : PyData → PyData → Option Sl) : Prop := ∀ (B G0 G H : Hp) (σ : St) (r : En) (x y : V) (d e : PyData) (s : Sl) (Q : VK), EO K B G0 G H σ r → Dp K G x d → Dp K G y e → f d e = some s →
  (∀ v G' H', EO K B G0 G' H' σ r → Same G G' → VO K B G' H' σ r v s → Q v H') → rop x y H Q
def OpD (K : PySem.W.Frag) (rop : R2) (f : PyData → PyData → Option PyData) : Prop := ∀ (B G0 G H : Hp) (σ : St) (r : En) (x y : V) (d e z : PyData) (Q : VK), EO K B G0 G H σ r → Dp K G x d → Dp K G y e → f d e = some z →
  (∀ v G' H', EO K B G0 G' H' σ r → Same G G' → Dp K G' v z → Q v H') → rop x y H Q
def OpB (K : PySem.W.Frag) (rop : R2) (f : PyData → PyData → Option Bool) : Prop := ∀ (B G0 G H : Hp) (σ : St) (r : En) (x y : V) (d e : PyData) (z : Bool) (Q : VK), EO K B G0 G H σ r → Dp K G x d → Dp K G y e → f d e = some z → Q (.bl z) H → rop x y H Q
theorem j_op2 {α β : Type} {R : Rl α β} {rop : V → V → Hp → (β → Hp → Prop) → Prop} {f : PyData → PyData → Option α} {ta tb : En → Out PyData} {ea eb : TE} (ha : J X W C rD ea ta) (hb : J X W C rD eb tb)
    (ho : ∀ (B G0 G H : Hp) (σ : St) (r : En) (x y : V) (d e : PyData) (s : α) (Q : β → Hp → Prop), EO X.K B G0 G H σ r → Dp X.K G x d → Dp X.K G y e → f d e = some s → (∀ v G' H', EO X.K B G0 G' H' σ r → Same G G' → R X.K B σ G' H' r v s → Q v H') → rop x y H Q) :
    J X W C R (fun σ H Q => ea σ H fun x H1 => eb σ H1 fun y H2 => rop x y H2 Q) (op2 f ta tb) := by
  intro B G0 G H σ r Q eo p
  refine ha B G0 G H σ r _ eo ?_
  refine Post.bind (R2 := R) p fun d r1 v G1 H1 e1 s1 hv q1 => hb B G0 G1 H1 σ r1 _ e1 ?_
  refine Post.bind (R2 := R) q1 fun d2 r2 v2 G2 H2 e2 s2 hv2 q2 => ?_
  cases hf : f d d2 with
  | none => rw [hf] at q2; exact q2.elim
  | some z =>
    rw [hf] at q2
    exact ho B G0 G2 H2 σ r2 v v2 d d2 z Q e2 (dp_same s2 _ _ hv) hv2 hf fun v3 G3 H3 e3 s3 h3 => q2 v3 G3 H3 e3 s3 h3
theorem s_bin {op : Operator} {rop : R2} {f : PyData → PyData → Option Sl} {ta tb : En → Out PyData} (hr : OpR X (binaryOp op) rop) (ho : OpS X.K rop f) (ha : Ed X W C a ta) (hb : Ed X W C b tb) : Es X W C (.BinOp a op b pos) (op2 f ta tb) := by
  obtain ⟨ea, a1, a2⟩ := ha.ex
  obtain ⟨eb, b1, b2⟩ := hb.ex
  exact ⟨_, pe_op hr a1 b1, j_op2 a2 b2 ho⟩
theorem d_bin {op : Operator} {rop : R2} {f : PyData → PyData → Option PyData} {ta tb : En → Out PyData} (hr : OpR X (binaryOp op) rop) (ho : OpD X.K rop f) (ha : Ed X W C a ta) (hb : Ed X W C b tb) : Ed X W C (.BinOp a op b pos) (op2 f ta tb) := by
  obtain ⟨ea, a1, a2⟩ := ha.ex
  obtain ⟨eb, b1, b2⟩ := hb.ex
  exact ⟨_, pe_op hr a1 b1, j_op2 a2 b2 ho⟩
@[simp] def boolD (f : PyData → PyData → Option Bool) : PyData → PyData → Option PyData := fun d e => (f d e).map PyData.bool
theorem d_cmp {op : CmpOp} {rop : R2} {f : PyData → PyData → Option Bool} {ta tb : En → Out PyData} (hr : OpR X (compareOp op) rop) (ho : OpB X.K rop f) (ha : Ed X W C a ta) (hb : Ed X W C b tb) (hm : behindInMarks op b = false) : Ed X W C (.Compare a [op] [b] pos) (op2 (boolD f) ta tb) := by
  obtain ⟨ea, a1, a2⟩ := ha.ex
  obtain ⟨eb, b1, b2⟩ := hb.ex
  refine ⟨_, pe_cmpR hr a1 b1 hm, j_op2 a2 b2 fun B G0 G H σ r x y d e z Q eo hx hy hf q => ?_⟩
  unfold boolD at hf
  cases hc : f d e with
  | none => rw [hc] at hf; cases hf
  | some c =>
    rw [hc] at hf
    cases hf
    exact ho B G0 G H σ r x y d e c Q eo hx hy hc (q _ G H eo (Same.refl G) (.bl c))
theorem t_cmp {op : CmpOp} {rop : R2} {f : PyData → PyData → Option Bool} {ta tb : En → Out PyData} (hr : OpR X (compareOp op) rop) (ho : OpB X.K rop f) (ha : Ed X W C a ta) (hb : Ed X W C b tb) (hm : behindInMarks op b = false) : Td X W C (.Compare a [op] [b] pos) (op2 f ta tb) := by
  obtain ⟨ea, a1, a2⟩ := ha.ex
  obtain ⟨eb, b1, b2⟩ := hb.ex
  refine ⟨_, pt_cmpR hr a1 b1 hm, j_op2 (R := rI Bool) (rop := fun x y H Q => rop x y H fun z H' => ∃ k, z = .bl k ∧ Q k H') a2 b2 fun B G0 G H σ r x y d e z Q eo hx hy hf q => ?_⟩
  exact ho B G0 G H σ r x y d e z _ eo hx hy hf ⟨z, rfl, q z G H eo (Same.refl G) rfl⟩

/-! the operations by data -/
def fAdd : PyData → PyData → Option Sl
  | .int i, .int j => some (.dat (.int (i + j)))
  | .str x, .str y => if x.length + y.length ≤ sizeLine then some (.dat (.str (x ++ y))) else none
  | .list xs, .list ys => if xs.length + ys.length ≤ sizeLine then some (.own (xs ++ ys)) else none
  | .tuple (x :: xs), .tuple ys => if xs.length + 1 + ys.length ≤ sizeLine then some (.dat (.tuple (x :: xs ++ ys))) else none
  | _, _ => none
/-- list + list, lists that are read -/
def rCatL (K : PySem.W.Frag) : R2 := fun x y H Q => ∃ l b xs zs, x = .ref l ∧ y = .ref b ∧ SqL K H l xs ∧ SqL K H b zs ∧ xs.length + zs.length ≤ sizeLine ∧ ∀ p, H p = none → Q (.ref p) (upd H p (.lst (xs ++ zs)))
theorem op_catL : OpR X (binaryOp .Add) (rCatL X.K) := by
  intro pins s σ H x y v u Q I rx ry h
  obtain ⟨l, b, xs, zs, rfl, rfl, hH, hB, hz, q⟩ := h
  cases rx
  cases ry
  obtain ⟨its, r, pl, z⟩ := I.list hH
  obtain ⟨its2, r2, pl2, z2⟩ := I.list hB
  obtain ⟨⟨cls, dd, data, sl⟩, n, ho, hc, hdd, hd⟩ := pl
  obtain ⟨⟨cls2, dd2, data2, sl2⟩, n2, ho2, hc2, hdd2, hd2⟩ := pl2
  simp only at hc hd hc2 hd2
  subst hc hd hc2 hd2
  have e : its.toArray ++ its2.toArray = (its ++ its2).toArray := by simp
  refine PySem.concat_meets ⟨_, ho, rfl⟩ ⟨_, ho2, rfl⟩ PySem.noFill_list_add PySem.seq_list_add PySem.F.slot_list_add PySem.F.entry_list_add (PySem.F.args_list_add_2 _ _) (PyProof.Rows.list_addW l b its.toArray its2.toArray n n2 dd dd2 sl sl2 (by rw [List.size_toArray, List.size_toArray, ← r.length, ← r2.length]; exact hz)) ⟨ho, ho2, ?_⟩
  rw [e]
  exact ⟨.ref _, _, I.lnew (t' := s.toks) (r.append r2) (by rw [List.length_append]; omega), rfl, q _ I.fresh⟩
def rAddStr : R2 := fun x y H Q => ∃ i j, x = .str i ∧ y = .str j ∧ i.length + j.length ≤ sizeLine ∧ Q (.str (i ++ j)) H
def rAddAll (K : PySem.W.Frag) : R2 := fun x y H Q => L2.rI0 (fun i j => .int (i + j)) x y H Q ∨ (rAddStr x y H Q ∨ (rCatL K x y H Q ∨ rCatT K x y H Q))
theorem op_addAll : OpR X (binaryOp .Add) (rAddAll X.K) := op_add.or (op_add_str.or (op_catL.or op_catT))
theorem ops_add {K : PySem.W.Frag} : OpS K (rAddAll K) fAdd := by
  intro B G0 G H σ r x y d e s Q eo hx hy hf q
  cases hx with
  | int i =>
    cases hy with
    | int j =>
      cases hf
      exact .inl ⟨i, j, rfl, rfl, q _ G H eo (Same.refl G) (Dp.int _)⟩
    | _ => cases hf
  | str i =>
    cases hy with
    | str j =>
      simp only [fAdd] at hf
      split at hf
      · cases hf
        exact .inr (.inl ⟨i, j, rfl, rfl, by assumption, q _ G H eo (Same.refl G) (Dp.str _)⟩)
      · cases hf
    | _ => cases hf
  | lst h1 h2 =>
    cases hy with
    | lst k1 k2 =>
      simp only [fAdd] at hf
      split at hf
      · rename_i hz
        cases hf
        refine .inr (.inr (.inl ⟨_, _, _, _, rfl, rfl, eo.gh.seq h1, eo.gh.seq k1, by rw [dpAll_len h2, dpAll_len k2]; exact hz, fun p hp => ?_⟩))
        exact q _ G _ (eo.newOwn hp) (Same.refl G) (eo.vOwn hp (dpAll_append h2 k2))
      · cases hf
    | _ => cases hf
  | @tup a xs ds h1 h2 =>
    cases ds with
    | nil => cases hy <;> cases hf
    | cons d0 ds =>
      cases hy with
      | @tup a' ys es k1 k2 =>
        simp only [fAdd] at hf
        split at hf
        · rename_i hz
          cases hf
          have l1 := dpAll_len h2
          have l2 := dpAll_len k2
          have hne : xs ≠ [] := fun z => by
            rw [z] at l1
            cases l1
          refine .inr (.inr (.inr ⟨_, _, _, _, rfl, rfl, same_t eo.gh h1, same_t eo.gh k1, hne, by rw [l1, l2, List.length_cons]; exact hz, fun z => ?_, fun z p hp => ?_⟩))
          · subst z
            cases k2
            rw [List.append_nil] at q
            exact q _ G H eo (Same.refl G) (Dp.tup h1 h2)
          · have hG := eo.gh.free hp
            exact q _ _ _ (eo.newDat hp) (same_upd hG) (Dp.tup (SqT.of upd_same) (dpAll_same (same_upd hG) _ _ (dpAll_append h2 k2)))
        · cases hf
      | _ => cases hf
  | _ => cases hy <;> cases hf
theorem s_add {ta tb : En → Out PyData} (ha : Ed X W C a ta) (hb : Ed X W C b tb) : Es X W C (.BinOp a .Add b pos) (op2 fAdd ta tb) := s_bin op_addAll ops_add ha hb

def fSub : PyData → PyData → Option PyData
  | .int i, .int j => some (.int (i - j))
  | _, _ => none
def fDiv : PyData → PyData → Option PyData
  | .int i, .int j => if 0 < j ∧ j < 1073741824 then some (.int (i / j)) else none
  | _, _ => none
def fMod : PyData → PyData → Option PyData
  | .int i, .int j => if 0 < j then some (.int (i % j)) else none
  | _, _ => none
def fPow : PyData → PyData → Option PyData
  | .int i, .int j => if 0 ≤ j ∧ j ≤ 1000000 ∧ i.natAbs < 2 ^ 64 then some (.int (i ^ j.toNat)) else none
  | _, _ => none
def fMul : PyData → PyData → Option PyData
  | .int i, .int j => if -(2 ^ 64) < j ∧ j < 2 ^ 64 then some (.int (i * j)) else none
  | .str x, .int n => if 0 ≤ n ∧ n ≤ 1000 ∧ x.length ≤ 1000 then some (.str (Txt.mul x n)) else none
  | _, _ => none
theorem opd_I {K : PySem.W.Frag} {P : Int → Int → Prop} [∀ i j, Decidable (P i j)] {g : Int → Int → Int} {f : PyData → PyData → Option PyData}
    (hf : ∀ d e z, f d e = some z → ∃ i j, d = .int i ∧ e = .int j ∧ P i j ∧ z = .int (g i j)) : OpD K (L2.rI P fun i j => .int (g i j)) f := by
  intro B G0 G H σ r x y d e z Q eo hx hy h q
  obtain ⟨i, j, rfl, rfl, hp, rfl⟩ := hf _ _ _ h
  cases hx
  cases hy
  exact ⟨i, j, rfl, rfl, hp, q _ G H eo (Same.refl G) (.int _)⟩
theorem opd_sub {K : PySem.W.Frag} : OpD K (L2.rI0 fun i j => .int (i - j)) fSub := by
  intro B G0 G H σ r x y d e z Q eo hx hy h q
  cases hx with
  | int i =>
    cases hy with
    | int j =>
      cases h
      exact ⟨i, j, rfl, rfl, q _ G H eo (Same.refl G) (.int _)⟩
    | _ => cases h
  | _ => cases h
theorem opd_div {K : PySem.W.Frag} : OpD K (L2.rI CDiv fun i j => .int (i / j)) fDiv := by
  intro B G0 G H σ r x y d e z Q eo hx hy h q
  cases hx with
  | int i =>
    cases hy with
    | int j =>
      simp only [fDiv] at h
      split at h
      · cases h
        exact ⟨i, j, rfl, rfl, by assumption, q _ G H eo (Same.refl G) (.int _)⟩
      · cases h
    | _ => cases h
  | _ => cases h
theorem opd_mod {K : PySem.W.Frag} : OpD K (L2.rI (fun _ j => 0 < j) fun i j => .int (i % j)) fMod := by
  intro B G0 G H σ r x y d e z Q eo hx hy h q
  cases hx with
  | int i =>
    cases hy with
    | int j =>
      simp only [fMod] at h
      split at h
      · cases h
        exact ⟨i, j, rfl, rfl, by assumption, q _ G H eo (Same.refl G) (.int _)⟩
      · cases h
    | _ => cases h
  | _ => cases h
theorem opd_pow {K : PySem.W.Frag} : OpD K (L2.rI CPow fun i j => .int (i ^ j.toNat)) fPow := by
  intro B G0 G H σ r x y d e z Q eo hx hy h q
  cases hx with
  | int i =>
    cases hy with
    | int j =>
      simp only [fPow] at h
      split at h
      · cases h
        exact ⟨i, j, rfl, rfl, by assumption, q _ G H eo (Same.refl G) (.int _)⟩
      · cases h
    | _ => cases h
  | _ => cases h
def rMulStr : R2 := fun x y H Q => ∃ z n, x = .str z ∧ y = .int n ∧ 0 ≤ n ∧ n ≤ 1000 ∧ z.length ≤ 1000 ∧ Q (.str (Txt.mul z n)) H
theorem mulOk_small {x : Str} {n : Int} (h0 : 0 ≤ n) (h1 : n ≤ 1000) (h2 : x.length ≤ 1000) : MulOk x n := by
  refine ⟨?_, fun a _ => ?_, fun a _ => ?_⟩
  · rw [decide_eq_false (by omega), decide_eq_false (by omega)]
    rfl
  · have e : (1000 : Int) ≤ (2 ^ 63 - 1) / n := by
      refine (Int.le_ediv_iff_mul_le (by omega)).mpr ?_
      have : (1000 : Int) * n ≤ 1000 * 1000 := by omega
      omega
    omega
  · have : x.length * n.toNat ≤ 1000 * 1000 := Nat.mul_le_mul h2 (by omega)
    unfold Builtin.Str.tooLong
    first
      | exact decide_eq_false (by have := sizeLine_eq; omega)
      | (simp; have := sizeLine_eq; omega)
theorem op_mulStr : OpR X (binaryOp .Mult) rMulStr := by
  intro pins s σ H x y v u Q I rx ry h
  obtain ⟨z, n, rfl, rfl, h0, h1, h2, q⟩ := h
  obtain ⟨t, rfl⟩ := rx
  obtain ⟨t', rfl⟩ := ry
  exact SB.mul (mulOk_small h0 h1 h2) fun t' k => ⟨.str _, H, I.tok _, ⟨_, rfl⟩, q⟩
theorem op_mulAll : OpR X (binaryOp .Mult) (fun x y H Q => L2.rI CMul (fun i j => .int (i * j)) x y H Q ∨ rMulStr x y H Q) := op_mul.or op_mulStr
theorem opd_mul {K : PySem.W.Frag} : OpD K (fun x y H Q => L2.rI CMul (fun i j => .int (i * j)) x y H Q ∨ rMulStr x y H Q) fMul := by
  intro B G0 G H σ r x y d e z Q eo hx hy h q
  cases hx with
  | int i =>
    cases hy with
    | int j =>
      simp only [fMul] at h
      split at h
      · cases h
        exact .inl ⟨i, j, rfl, rfl, .inr (by assumption), q _ G H eo (Same.refl G) (.int _)⟩
      · cases h
    | _ => cases h
  | str i =>
    cases hy with
    | int j =>
      simp only [fMul] at h
      split at h
      · rename_i hc
        cases h
        exact .inr ⟨i, j, rfl, rfl, hc.1, hc.2.1, hc.2.2, q _ G H eo (Same.refl G) (.str _)⟩
      · cases h
    | _ => cases h
  | _ => cases h
theorem d_sub {ta tb : En → Out PyData} (ha : Ed X W C a ta) (hb : Ed X W C b tb) : Ed X W C (.BinOp a .Sub b pos) (op2 fSub ta tb) := d_bin op_sub opd_sub ha hb
theorem d_mul {ta tb : En → Out PyData} (ha : Ed X W C a ta) (hb : Ed X W C b tb) : Ed X W C (.BinOp a .Mult b pos) (op2 fMul ta tb) := d_bin op_mulAll opd_mul ha hb
theorem d_fdiv {ta tb : En → Out PyData} (ha : Ed X W C a ta) (hb : Ed X W C b tb) : Ed X W C (.BinOp a .FloorDiv b pos) (op2 fDiv ta tb) := d_bin op_fdiv opd_div ha hb
theorem d_mod {ta tb : En → Out PyData} (ha : Ed X W C a ta) (hb : Ed X W C b tb) : Ed X W C (.BinOp a .Mod b pos) (op2 fMod ta tb) := d_bin op_mod opd_mod ha hb
theorem d_pow {ta tb : En → Out PyData} (ha : Ed X W C a ta) (hb : Ed X W C b tb) : Ed X W C (.BinOp a .Pow b pos) (op2 fPow ta tb) := d_bin op_pow opd_pow ha hb

/-! comparisons -/
def fLt : PyData → PyData → Option Bool
  | .int i, .int j => some (decide (i < j))
  | _, _ => none
def fLe : PyData → PyData → Option Bool
  | .int i, .int j => some (decide (i ≤ j))
  | _, _ => none
def fGt : PyData → PyData → Option Bool
  | .int i, .int j => some (decide (j < i))
  | _, _ => none
def fGe : PyData → PyData → Option Bool
  | .int i, .int j => some (decide (j ≤ i))
  | _, _ => none
@[simp] def isNone : PyData → Bool
  | .none => true
  | _ => false
def fIs : PyData → PyData → Option Bool
  | d, .none => some (isNone d)
  | _, _ => none
def fIsNot : PyData → PyData → Option Bool
  | d, .none => some (!isNone d)
  | _, _ => none
/-- == of data: texts and numbers by themselves, else data of a depth of at most 64 -/
def fEq : PyData → PyData → Option Bool
  | .int i, .int j => some (decide (i = j))
  | .str i, .str j => some (decide (i = j))
  | .bool i, .bool j => some (decide (i = j))
  | d, e => if SeqAt.shaped d = true ∧ SeqAt.shaped e = true then some (PyData.eqv d e) else none
def fNe (d e : PyData) : Option Bool := (fEq d e).map not
theorem opb_I {K : PySem.W.Frag} {g : Int → Int → Bool} {f : PyData → PyData → Option Bool} (hf : ∀ d e z, f d e = some z → ∃ i j, d = .int i ∧ e = .int j ∧ z = g i j) : OpB K (L2.rI0 fun i j => .bl (g i j)) f := by
  intro B G0 G H σ r x y d e z Q eo hx hy h q
  obtain ⟨i, j, rfl, rfl, rfl⟩ := hf _ _ _ h
  cases hx
  cases hy
  exact ⟨i, j, rfl, rfl, q⟩
theorem opb_lt {K : PySem.W.Frag} : OpB K (L2.rI0 fun i j => .bl (decide (i < j))) fLt := opb_I fun d e z h => by
  cases d <;> cases e <;> first | cases h; exact ⟨_, _, rfl, rfl, rfl⟩ | cases h
theorem opb_le {K : PySem.W.Frag} : OpB K (L2.rI0 fun i j => .bl (decide (i ≤ j))) fLe := opb_I fun d e z h => by
  cases d <;> cases e <;> first | cases h; exact ⟨_, _, rfl, rfl, rfl⟩ | cases h
theorem opb_gt {K : PySem.W.Frag} : OpB K (L2.rI0 fun i j => .bl (decide (j < i))) fGt := opb_I fun d e z h => by
  cases d <;> cases e <;> first | cases h; exact ⟨_, _, rfl, rfl, rfl⟩ | cases h
theorem opb_ge {K : PySem.W.Frag} : OpB K (L2.rI0 fun i j => .bl (decide (j ≤ i))) fGe := opb_I fun d e z h => by
  cases d <;> cases e <;> first | cases h; exact ⟨_, _, rfl, rfl, rfl⟩ | cases h
theorem dp_none {K : PySem.W.Frag} {G : Hp} {v : V} {d : PyData} (h : Dp K G v d) : decide (v = .non) = isNone d := by
  cases h <;> rfl
theorem opb_is {K : PySem.W.Frag} : OpB K (fun x y H Q => y = .non ∧ Q (.bl (decide (x = .non))) H) fIs := by
  intro B G0 G H σ r x y d e z Q eo hx hy h q
  cases hy with
  | non =>
    cases h
    exact ⟨rfl, by rw [dp_none hx]; exact q⟩
  | _ => cases h
theorem opb_isNot {K : PySem.W.Frag} : OpB K (fun x y H Q => y = .non ∧ Q (.bl (!decide (x = .non))) H) fIsNot := by
  intro B G0 G H σ r x y d e z Q eo hx hy h q
  cases hy with
  | non =>
    cases h
    exact ⟨rfl, by rw [dp_none hx]; exact q⟩
  | _ => cases h
theorem dec_int2 {i j : Int} : decide (V.int i = V.int j) = decide (i = j) := by simp
theorem dec_str2 {i j : Str} : decide (V.str i = V.str j) = decide (i = j) := by simp
theorem dec_bl2 {i j : Bool} : decide (V.bl i = V.bl j) = decide (i = j) := by simp
def rEqAll (K : PySem.W.Frag) : R2 := fun x y H Q => rEq x y H Q ∨ rEqD K x y H Q
def rNeAll (K : PySem.W.Frag) : R2 := fun x y H Q => rNe x y H Q ∨ rNeD K x y H Q
theorem op_eqAll (hu : X.A.units + 64 < cLine) : OpR X (compareOp .Eq) (rEqAll X.K) := op_eq.or (op_eqD hu)
theorem op_neAll (hu : X.A.units + 64 < cLine) : OpR X (compareOp .NotEq) (rNeAll X.K) := op_ne.or (op_neD hu)
theorem fEq_cases {d e : PyData} {z : Bool} (h : fEq d e = some z) : (∃ i j, d = .int i ∧ e = .int j ∧ z = decide (i = j)) ∨ (∃ i j, d = .str i ∧ e = .str j ∧ z = decide (i = j)) ∨ (∃ i j, d = .bool i ∧ e = .bool j ∧ z = decide (i = j)) ∨
    (SeqAt.shaped d = true ∧ SeqAt.shaped e = true ∧ z = PyData.eqv d e) := by
  unfold fEq at h
  split at h
  · cases h; exact .inl ⟨_, _, rfl, rfl, rfl⟩
  · cases h; exact .inr (.inl ⟨_, _, rfl, rfl, rfl⟩)
  · cases h; exact .inr (.inr (.inl ⟨_, _, rfl, rfl, rfl⟩))
  · split at h
    · rename_i hc
      cases h
      exact .inr (.inr (.inr ⟨hc.1, hc.2, rfl⟩))
    · cases h
theorem opb_eq {K : PySem.W.Frag} : OpB K (rEqAll K) fEq := by
  intro B G0 G H σ r x y d e z Q eo hx hy h q
  rcases fEq_cases h with ⟨i, j, rfl, rfl, rfl⟩ | ⟨i, j, rfl, rfl, rfl⟩ | ⟨i, j, rfl, rfl, rfl⟩ | ⟨h1, h2, rfl⟩
  · cases hx; cases hy
    exact .inl ⟨rfl, by rw [dec_int2]; exact q⟩
  · cases hx; cases hy
    exact .inl ⟨rfl, by rw [dec_str2]; exact q⟩
  · cases hx; cases hy
    exact .inl ⟨rfl, by rw [dec_bl2]; exact q⟩
  · exact .inr ⟨d, e, dp_same eo.gh _ _ hx, dp_same eo.gh _ _ hy, h1, h2, q⟩
theorem opb_ne {K : PySem.W.Frag} : OpB K (rNeAll K) fNe := by
  intro B G0 G H σ r x y d e z Q eo hx hy h q
  unfold fNe at h
  cases hz : fEq d e with
  | none => rw [hz] at h; cases h
  | some z' =>
    rw [hz] at h
    cases h
    rcases fEq_cases hz with ⟨i, j, rfl, rfl, rfl⟩ | ⟨i, j, rfl, rfl, rfl⟩ | ⟨i, j, rfl, rfl, rfl⟩ | ⟨h1, h2, rfl⟩
    · cases hx; cases hy
      exact .inl ⟨rfl, by rw [dec_int2]; exact q⟩
    · cases hx; cases hy
      exact .inl ⟨rfl, by rw [dec_str2]; exact q⟩
    · cases hx; cases hy
      exact .inl ⟨rfl, by rw [dec_bl2]; exact q⟩
    · exact .inr ⟨d, e, dp_same eo.gh _ _ hx, dp_same eo.gh _ _ hy, h1, h2, q⟩
end

/-! the operations' equations -/
section
variable (i j : Int) (x y : Str) (b c : Bool) (d : PyData) (xs ys : List PyData)
@[simp] theorem fAdd_i : fAdd (.int i) (.int j) = some (.dat (.int (i + j))) := rfl
@[simp] theorem fAdd_s : fAdd (.str x) (.str y) = if x.length + y.length ≤ sizeLine then some (.dat (.str (x ++ y))) else none := rfl
@[simp] theorem fAdd_l : fAdd (.list xs) (.list ys) = if xs.length + ys.length ≤ sizeLine then some (.own (xs ++ ys)) else none := rfl
@[simp] theorem fAdd_t : fAdd (.tuple (d :: xs)) (.tuple ys) = if xs.length + 1 + ys.length ≤ sizeLine then some (.dat (.tuple (d :: xs ++ ys))) else none := rfl
@[simp] theorem fSub_i : fSub (.int i) (.int j) = some (.int (i - j)) := rfl
@[simp] theorem fDiv_i : fDiv (.int i) (.int j) = if 0 < j ∧ j < 1073741824 then some (.int (i / j)) else none := rfl
@[simp] theorem fMod_i : fMod (.int i) (.int j) = if 0 < j then some (.int (i % j)) else none := rfl
@[simp] theorem fPow_i : fPow (.int i) (.int j) = if 0 ≤ j ∧ j ≤ 1000000 ∧ i.natAbs < 2 ^ 64 then some (.int (i ^ j.toNat)) else none := rfl
@[simp] theorem fMul_i : fMul (.int i) (.int j) = if -(2 ^ 64) < j ∧ j < 2 ^ 64 then some (.int (i * j)) else none := rfl
@[simp] theorem fMul_s : fMul (.str x) (.int i) = if 0 ≤ i ∧ i ≤ 1000 ∧ x.length ≤ 1000 then some (.str (Txt.mul x i)) else none := rfl
@[simp] theorem fLt_i : fLt (.int i) (.int j) = some (decide (i < j)) := rfl
@[simp] theorem fLe_i : fLe (.int i) (.int j) = some (decide (i ≤ j)) := rfl
@[simp] theorem fGt_i : fGt (.int i) (.int j) = some (decide (j < i)) := rfl
@[simp] theorem fGe_i : fGe (.int i) (.int j) = some (decide (j ≤ i)) := rfl
@[simp] theorem fIs_n : fIs d .none = some (isNone d) := by cases d <;> rfl
@[simp] theorem fIsNot_n : fIsNot d .none = some (!isNone d) := by cases d <;> rfl
@[simp] theorem fEq_i : fEq (.int i) (.int j) = some (decide (i = j)) := rfl
@[simp] theorem fEq_s : fEq (.str x) (.str y) = some (decide (x = y)) := rfl
@[simp] theorem fEq_b : fEq (.bool b) (.bool c) = some (decide (b = c)) := rfl
@[simp] theorem fNe_i : fNe (.int i) (.int j) = some (!decide (i = j)) := rfl
@[simp] theorem fNe_s : fNe (.str x) (.str y) = some (!decide (x = y)) := rfl
@[simp] theorem fNe_b : fNe (.bool b) (.bool c) = some (!decide (b = c)) := rfl
theorem fEq_t (h : SeqAt.shaped (.tuple xs) = true) (h' : SeqAt.shaped d = true) : fEq (.tuple xs) d = some (PyData.eqv (.tuple xs) d) := by
  cases d <;> exact if_pos ⟨h, h'⟩
theorem fEq_l (h : SeqAt.shaped (.list xs) = true) (h' : SeqAt.shaped d = true) : fEq (.list xs) d = some (PyData.eqv (.list xs) d) := by
  cases d <;> exact if_pos ⟨h, h'⟩
end
end GM

namespace GM
open PySem PySem.Spec L2
section
variable {X : Cx} {W : WX} {C : Er → Addr} {pos : Pos} {e a b : Expr} {es : List Expr}
theorem d_eq {ta tb : En → Out PyData} (hu : X.A.units + 64 < cLine) (ha : Ed X W C a ta) (hb : Ed X W C b tb) : Ed X W C (.Compare a [.Eq] [b] pos) (op2 (boolD fEq) ta tb) := d_cmp (op_eqAll hu) opb_eq ha hb (nomark _)
theorem d_ne {ta tb : En → Out PyData} (hu : X.A.units + 64 < cLine) (ha : Ed X W C a ta) (hb : Ed X W C b tb) : Ed X W C (.Compare a [.NotEq] [b] pos) (op2 (boolD fNe) ta tb) := d_cmp (op_neAll hu) opb_ne ha hb (nomark _)
theorem d_lt {ta tb : En → Out PyData} (ha : Ed X W C a ta) (hb : Ed X W C b tb) : Ed X W C (.Compare a [.Lt] [b] pos) (op2 (boolD fLt) ta tb) := d_cmp op_lt opb_lt ha hb (nomark _)
theorem d_le {ta tb : En → Out PyData} (ha : Ed X W C a ta) (hb : Ed X W C b tb) : Ed X W C (.Compare a [.LtE] [b] pos) (op2 (boolD fLe) ta tb) := d_cmp op_le opb_le ha hb (nomark _)
theorem d_gt {ta tb : En → Out PyData} (ha : Ed X W C a ta) (hb : Ed X W C b tb) : Ed X W C (.Compare a [.Gt] [b] pos) (op2 (boolD fGt) ta tb) := d_cmp op_gt opb_gt ha hb (nomark _)
theorem d_ge {ta tb : En → Out PyData} (ha : Ed X W C a ta) (hb : Ed X W C b tb) : Ed X W C (.Compare a [.GtE] [b] pos) (op2 (boolD fGe) ta tb) := d_cmp op_ge opb_ge ha hb (nomark _)
theorem d_is {ta tb : En → Out PyData} (ha : Ed X W C a ta) (hb : Ed X W C b tb) : Ed X W C (.Compare a [.Is] [b] pos) (op2 (boolD fIs) ta tb) := d_cmp op_isN opb_is ha hb (nomark _)
theorem d_isNot {ta tb : En → Out PyData} (ha : Ed X W C a ta) (hb : Ed X W C b tb) : Ed X W C (.Compare a [.IsNot] [b] pos) (op2 (boolD fIsNot) ta tb) := d_cmp op_notN opb_isNot ha hb (nomark _)
theorem t_eq {ta tb : En → Out PyData} (hu : X.A.units + 64 < cLine) (ha : Ed X W C a ta) (hb : Ed X W C b tb) : Td X W C (.Compare a [.Eq] [b] pos) (op2 fEq ta tb) := t_cmp (op_eqAll hu) opb_eq ha hb (nomark _)
theorem t_ne {ta tb : En → Out PyData} (hu : X.A.units + 64 < cLine) (ha : Ed X W C a ta) (hb : Ed X W C b tb) : Td X W C (.Compare a [.NotEq] [b] pos) (op2 fNe ta tb) := t_cmp (op_neAll hu) opb_ne ha hb (nomark _)
theorem t_lt {ta tb : En → Out PyData} (ha : Ed X W C a ta) (hb : Ed X W C b tb) : Td X W C (.Compare a [.Lt] [b] pos) (op2 fLt ta tb) := t_cmp op_lt opb_lt ha hb (nomark _)
theorem t_le {ta tb : En → Out PyData} (ha : Ed X W C a ta) (hb : Ed X W C b tb) : Td X W C (.Compare a [.LtE] [b] pos) (op2 fLe ta tb) := t_cmp op_le opb_le ha hb (nomark _)
theorem t_gt {ta tb : En → Out PyData} (ha : Ed X W C a ta) (hb : Ed X W C b tb) : Td X W C (.Compare a [.Gt] [b] pos) (op2 fGt ta tb) := t_cmp op_gt opb_gt ha hb (nomark _)
theorem t_ge {ta tb : En → Out PyData} (ha : Ed X W C a ta) (hb : Ed X W C b tb) : Td X W C (.Compare a [.GtE] [b] pos) (op2 fGe ta tb) := t_cmp op_ge opb_ge ha hb (nomark _)
theorem t_is {ta tb : En → Out PyData} (ha : Ed X W C a ta) (hb : Ed X W C b tb) : Td X W C (.Compare a [.Is] [b] pos) (op2 fIs ta tb) := t_cmp op_isN opb_is ha hb (nomark _)
theorem t_isNot {ta tb : En → Out PyData} (ha : Ed X W C a ta) (hb : Ed X W C b tb) : Td X W C (.Compare a [.IsNot] [b] pos) (op2 fIsNot ta tb) := t_cmp op_notN opb_isNot ha hb (nomark _)

/-! ### one-place operations -/
def fNeg : PyData → Option PyData
  | .int i => some (.int (-i))
  | _ => none
theorem j_op1 {α β : Type} {R : Rl α β} {rop : V → Hp → (β → Hp → Prop) → Prop} {f : PyData → Option α} {ta : En → Out PyData} {ea : TE} (ha : J X W C rD ea ta)
    (ho : ∀ (B G0 G H : Hp) (σ : St) (r : En) (x : V) (d : PyData) (s : α) (Q : β → Hp → Prop), EO X.K B G0 G H σ r → Dp X.K G x d → f d = some s → (∀ v G' H', EO X.K B G0 G' H' σ r → Same G G' → R X.K B σ G' H' r v s → Q v H') → rop x H Q) :
    J X W C R (fun σ H Q => ea σ H fun x H1 => rop x H1 Q) (op1 f ta) := by
  intro B G0 G H σ r Q eo p
  refine ha B G0 G H σ r _ eo ?_
  refine Post.bind (R2 := R) p fun d r1 v G1 H1 e1 s1 hv q1 => ?_
  cases hf : f d with
  | none => rw [hf] at q1; exact q1.elim
  | some z =>
    rw [hf] at q1
    exact ho B G0 G1 H1 σ r1 v d z Q e1 hv hf fun v3 G3 H3 e3 s3 h3 => q1 v3 G3 H3 e3 s3 h3
theorem d_neg {ta : En → Out PyData} (ha : Ed X W C a ta) : Ed X W C (.UnaryOp .USub a pos) (op1 fNeg ta) := by
  obtain ⟨ea, a1, a2⟩ := ha.ex
  refine ⟨_, pe_un un_neg a1, j_op1 (rop := fun x H Q => rU (fun i => V.int (-i)) x H Q) a2 fun B G0 G H σ r x d s Q eo hx hf q => ?_⟩
  cases hx with
  | int i =>
    cases hf
    exact ⟨i, rfl, q _ G H eo (Same.refl G) (.int _)⟩
  | _ => cases hf

/-! ### subscripts -/
def fIx : PyData → PyData → Option PyData
  | .tuple ds, .int i => atI ds i
  | .list ds, .int i => atI ds i
  | .str z, .int i => if z.length ≤ sizeLine then (atI z.cps.toList i).map fun c => .str ⟨#[c]⟩ else none
  | _, _ => none
theorem dpAll_at {K : PySem.W.Frag} {G : Hp} {vs : List V} {ds : List PyData} {i : Int} {d : PyData} (h : DpAll K G vs ds) (ha : atI ds i = some d) : ∃ v, atI vs i = some v ∧ Dp K G v d := by
  unfold atI at ha ⊢
  rw [dpAll_len h]
  cases hn : ixN ds.length i with
  | none => rw [hn] at ha; cases ha
  | some j =>
    rw [hn] at ha
    exact dpAll_get h j d ha
theorem opd_ix {K : PySem.W.Frag} : OpD K (rIx K) fIx := by
  intro B G0 G H σ r x y d e z Q eo hx hy h q
  cases hy with
  | int i =>
    cases hx with
    | str z0 =>
      simp only [fIx] at h
      split at h
      · rename_i hz
        cases hc : atI z0.cps.toList i with
        | none => rw [hc] at h; cases h
        | some c =>
          rw [hc] at h
          cases h
          exact .inr (.inr ⟨z0, i, c, rfl, rfl, hz, hc, q _ G H eo (Same.refl G) (.str _)⟩)
      · cases h
    | lst h1 h2 =>
      obtain ⟨v, hv, dv⟩ := dpAll_at h2 h
      exact .inl ⟨_, _, i, v, rfl, rfl, eo.gh.seq h1, hv, q v G H eo (Same.refl G) dv⟩
    | tup h1 h2 =>
      obtain ⟨v, hv, dv⟩ := dpAll_at h2 h
      exact .inr (.inl ⟨_, _, i, v, rfl, rfl, same_t eo.gh h1, hv, q v G H eo (Same.refl G) dv⟩)
    | _ => cases h
  | _ => cases hx <;> cases h
theorem d_ix {ta tb : En → Out PyData} (ha : Ed X W C a ta) (hb : Ed X W C b tb) (hs : PlainIx b := by exact fun _ _ => rfl) : Ed X W C (.Subscript a b pos) (op2 fIx ta tb) := by
  obtain ⟨ea, a1, a2⟩ := ha.ex
  obtain ⟨eb, b1, b2⟩ := hb.ex
  exact ⟨_, pe_ix ix_seq a1 b1 hs, j_op2 a2 b2 opd_ix⟩
/-- x[b], x a name: the list stays one's own -/
@[simp] def dIxV (i : Nat) (t : En → Out PyData) : En → Out PyData := fun r => match r[i]? with
  | some (.dat d) => (t r).bind fun e r => ofO (fIx d e) r
  | some (.own _) => (t r).bind fun e r => match r[i]? with
    | some (.own l) => ofO (fIx (.list l) e) r
    | _ => .bot
  | _ => .bot
theorem d_ixV (i : Nat) {x : Str} {p : Pos} {tb : En → Out PyData} (hb : Ed X W C b tb) (hs : PlainIx b := by exact fun _ _ => rfl) (hN : X.N[i]? = some x := by rfl) (hv : Vis X.env.scope x := by first | exact Or.inl rfl | exact Or.inr (Or.inl rfl) | exact Or.inr (Or.inr rfl))
    (hd : (x == ("__debug__" : Str)) = false := by decide) (hcd : (x == ("__classdict__" : Str)) = false := by decide) : Ed X W C (.Subscript (.Name x p) b pos) (dIxV i tb) := by
  obtain ⟨eb, b1, b2⟩ := hb.ex
  refine ⟨_, pe_ix ix_seq (pe_var hN hv hd hcd) b1 hs, fun B G0 G H σ r Q eo pp => ?_⟩
  unfold dIxV at pp
  cases hr : r[i]? with
  | none => rw [hr] at pp; exact pp.elim
  | some s =>
    rw [hr] at pp
    cases s with
    | emp => exact pp.elim
    | dic l => exact pp.elim
    | dat d =>
      obtain ⟨v, h1, x, rfl, h2⟩ := eo.slot i _ hr
      refine ⟨x, h1, b2 B G0 G H σ r _ eo ?_⟩
      refine Post.bind (R2 := rD) pp fun e r1 v1 G1 H1 e1 s1 hv1 q1 => ?_
      cases hf : fIx d e with
      | none => rw [hf] at q1; exact q1.elim
      | some z =>
        rw [hf] at q1
        exact opd_ix B G0 G1 H1 σ r1 x v1 d e z Q e1 (dp_same s1 _ _ h2) hv1 hf fun v3 G3 H3 e3 s3 h3 => q1 v3 G3 H3 e3 s3 h3
    | own l0 =>
      obtain ⟨v, h1, q0, vs0, rfl, _⟩ := eo.slot i _ hr
      refine ⟨_, h1, b2 B G0 G H σ r _ eo ?_⟩
      refine Post.bind (R2 := rD) pp fun e r1 v1 G1 H1 e1 s1 hv1 q1 => ?_
      cases hr1 : r1[i]? with
      | none => rw [hr1] at q1; exact q1.elim
      | some s1' =>
        rw [hr1] at q1
        cases s1' with
        | emp => exact q1.elim
        | dic l => exact q1.elim
        | dat d => exact q1.elim
        | own l =>
          obtain ⟨v2, k1, p2, vs2, k2, k3, k4, k5, k6⟩ := e1.slot i _ hr1
          rw [h1] at k1
          cases k1
          cases k2
          cases hv1 with
          | int j =>
            cases hf : fIx (.list l) (.int j) with
            | none =>
              have q2 : Post rD X.K W C B G0 G1 σ Q (ofO (fIx (.list l) (.int j)) r1) := q1
              rw [hf] at q2
              exact q2.elim
            | some z =>
              have q2 : Post rD X.K W C B G0 G1 σ Q (ofO (fIx (.list l) (.int j)) r1) := q1
              rw [hf] at q2
              obtain ⟨w, hw, dw⟩ := dpAll_at k6 hf
              exact .inl ⟨_, _, j, w, rfl, rfl, SqL.of k5, hw, q2.one e1 dw⟩
          | _ => exact q1.elim

/-! ### slices -/
@[simp] def oNone : En → Out (Option Int) := fun r => .ok none r
@[simp] def oSome (t : En → Out PyData) : En → Out (Option Int) := fun r => (t r).bind fun d r => match d with
  | .int i => .ok (some i) r
  | _ => .bot
theorem o_none : Od X W C none oNone := ⟨_, po_none, fun B G0 G H σ r Q eo p => p none G H eo (Same.refl G) rfl⟩
theorem o_some {ta : En → Out PyData} (ha : Ed X W C a ta) : Od X W C (some a) (oSome ta) := by
  obtain ⟨ea, a1, a2⟩ := ha.ex
  refine ⟨_, po_some a1, fun B G0 G H σ r Q eo p => a2 B G0 G H σ r _ eo ?_⟩
  refine Post.bind (R2 := L2.Itr 0 0 |> fun _ => GM.rI (Option Int)) p fun d r1 v G1 H1 e1 s1 hv q => ?_
  cases hv with
  | int i => exact ⟨i, rfl, q.one e1 rfl⟩
  | _ => exact q.elim
def cutL {α : Type} (xs : List α) (lo hi : Option Int) : List α := (xs.drop (HT.sIx xs.length 0 lo)).take (HT.sIx xs.length xs.length hi - HT.sIx xs.length 0 lo)
theorem dpAll_cut {K : PySem.W.Frag} {G : Hp} {vs : List V} {ds : List PyData} (lo hi : Option Int) (h : DpAll K G vs ds) : DpAll K G (cutV vs lo hi) (cutL ds lo hi) := by
  unfold cutV cutL
  rw [dpAll_len h]
  exact dpAll_take _ (dpAll_drop _ h)
def fSl (d : PyData) (lo hi : Option Int) : Option Sl := match d with
  | .list ds => some (.own (cutL ds lo hi))
  | .tuple ds => some (.dat (.tuple (cutL ds lo hi)))
  | .str z => if z.length ≤ sizeLine then some (.dat (.str (cutS z lo hi))) else none
  | _ => none
@[simp] def dSl (t : En → Out PyData) (l u : En → Out (Option Int)) : En → Out Sl := fun r => (t r).bind fun d r => (l r).bind fun lo r => (u r).bind fun hi r => ofO (fSl d lo hi) r
theorem cutL_whole {α : Type} {xs : List α} {lo hi : Option Int} (h : HT.sIx xs.length 0 lo = 0 ∧ HT.sIx xs.length xs.length hi = xs.length) : cutL xs lo hi = xs := by
  unfold cutL
  rw [h.1, h.2]
  simp
theorem s_slice {lo hi : Option Expr} {p2 : Pos} {ta : En → Out PyData} {tl tu : En → Out (Option Int)} (ha : Ed X W C a ta) (hl : Od X W C lo tl) (hu : Od X W C hi tu) : Es X W C (.Subscript a (.Slice lo hi none p2) pos) (dSl ta tl tu) := by
  obtain ⟨ea, a1, a2⟩ := ha.ex
  obtain ⟨el, l1, l2⟩ := hl.ex
  obtain ⟨eu, u1, u2⟩ := hu.ex
  refine ⟨_, pe_slice (sl_list.or (sl_tupA.or sl_str)) a1 l1 u1, fun B G0 G H σ r Q eo p => a2 B G0 G H σ r _ eo ?_⟩
  refine Post.bind (R2 := rS) p fun d r1 v G1 H1 e1 s1 hv q1 => l2 B G0 G1 H1 σ r1 _ e1 ?_
  refine Post.bind (R2 := rS) q1 fun lo' r2 lo2 G2 H2 e2 s2 hlo q2 => u2 B G0 G2 H2 σ r2 _ e2 ?_
  refine Post.bind (R2 := rS) q2 fun hi' r3 hi2 G3 H3 e3 s3 hhi q3 => ?_
  cases hlo
  cases hhi
  have hv3 := dp_same (s2.trans s3) _ _ hv
  cases hv3 with
  | lst h1 h2 => exact .inl ⟨_, _, rfl, e3.gh.seq h1, fun p hp => q3 _ _ _ (e3.newOwn hp) (Same.refl _) (e3.vOwn hp (dpAll_cut _ _ h2))⟩
  | @tup a' xs ds h1 h2 =>
    refine .inr (.inl ⟨_, _, rfl, same_t e3.gh h1, fun z => ?_, fun z p hp => ?_⟩)
    · have q4 : Post rS X.K W C B G0 G3 σ Q (.ok (.dat (.tuple (cutL ds lo' hi'))) r3) := q3
      rw [cutL_whole (by rw [← dpAll_len h2]; exact z)] at q4
      exact q4.one e3 (Dp.tup h1 h2)
    · have hG := e3.gh.free hp
      exact q3 _ _ _ (e3.newDat hp) (same_upd hG) (Dp.tup (SqT.of upd_same) (dpAll_same (same_upd hG) _ _ (dpAll_cut _ _ h2)))
  | str z0 =>
    have q4 : Post rS X.K W C B G0 G3 σ Q (ofO (if z0.length ≤ sizeLine then some (.dat (.str (cutS z0 lo' hi'))) else none) r3) := q3
    split at q4
    · rename_i hz
      exact .inr (.inr ⟨z0, rfl, hz, q4.one e3 (Dp.str _)⟩)
    · exact q4.elim
  | _ => exact q3.elim

/-! ### truth: and, or, not -/
@[simp] def dAnd (t u : En → Out PyData) : En → Out PyData := fun r => (t r).bind fun d r => match d with
  | .bool true => u r
  | .bool false => .ok (.bool false) r
  | _ => .bot
@[simp] def dOr (t u : En → Out PyData) : En → Out PyData := fun r => (t r).bind fun d r => match d with
  | .bool true => .ok (.bool true) r
  | .bool false => u r
  | _ => .bot
@[simp] def dNot (t : En → Out PyData) : En → Out PyData := fun r => (t r).bind fun d r => match d with
  | .bool c => .ok (.bool (!c)) r
  | _ => .bot
theorem d_one {op} {ta : En → Out PyData} (ha : Ed X W C a ta) : Ed X W C (.BoolOp op [a] pos) ta := by
  obtain ⟨ea, a1, a2⟩ := ha.ex
  exact ⟨_, pe_one a1, a2⟩
theorem d_and {rest : List Expr} {ta tb : En → Out PyData} (ha : Ed X W C a ta) (hb : Ed X W C (.BoolOp .And (b :: rest) pos) tb) : Ed X W C (.BoolOp .And (a :: b :: rest) pos) (dAnd ta tb) := by
  obtain ⟨ea, a1, a2⟩ := ha.ex
  obtain ⟨eb, b1, b2⟩ := hb.ex
  refine ⟨_, pe_and a1 b1, fun B G0 G H σ r Q eo p => a2 B G0 G H σ r _ eo ?_⟩
  refine Post.bind (R2 := rD) p fun d r1 v G1 H1 e1 s1 hv q => ?_
  cases hv with
  | bl c =>
    refine ⟨c, rfl, ?_⟩
    cases c with
    | true => exact iteT (b2 B G0 G1 H1 σ r1 Q e1 q)
    | false => exact iteF (q.one e1 (Dp.bl false))
  | _ => exact q.elim
theorem d_or {rest : List Expr} {ta tb : En → Out PyData} (ha : Ed X W C a ta) (hb : Ed X W C (.BoolOp .Or (b :: rest) pos) tb) : Ed X W C (.BoolOp .Or (a :: b :: rest) pos) (dOr ta tb) := by
  obtain ⟨ea, a1, a2⟩ := ha.ex
  obtain ⟨eb, b1, b2⟩ := hb.ex
  refine ⟨_, pe_or a1 b1, fun B G0 G H σ r Q eo p => a2 B G0 G H σ r _ eo ?_⟩
  refine Post.bind (R2 := rD) p fun d r1 v G1 H1 e1 s1 hv q => ?_
  cases hv with
  | bl c =>
    refine ⟨c, rfl, ?_⟩
    cases c with
    | true => exact iteT (q.one e1 (Dp.bl true))
    | false => exact iteF (b2 B G0 G1 H1 σ r1 Q e1 q)
  | _ => exact q.elim
theorem d_not {ta : En → Out PyData} (ha : Ed X W C a ta) : Ed X W C (.UnaryOp .Not a pos) (dNot ta) := by
  obtain ⟨ea, a1, a2⟩ := ha.ex
  refine ⟨_, pe_not a1, fun B G0 G H σ r Q eo p => a2 B G0 G H σ r _ eo ?_⟩
  refine Post.bind (R2 := rD) p fun d r1 v G1 H1 e1 s1 hv q => ?_
  cases hv with
  | bl c => exact ⟨c, rfl, q.one e1 (Dp.bl _)⟩
  | _ => exact q.elim
@[simp] def tAndD (t u : En → Out Bool) : En → Out Bool := fun r => (t r).bind fun c r => if c = true then u r else .ok false r
@[simp] def tOrD (t u : En → Out Bool) : En → Out Bool := fun r => (t r).bind fun c r => if c = true then .ok true r else u r
@[simp] def tNotD (t : En → Out Bool) : En → Out Bool := fun r => (t r).bind fun c r => .ok (!c) r
theorem w_and1 {ta : En → Out Bool} (ha : Td X W C a ta) : Wd X W C (.BoolOp .And [a] pos) ta := by
  obtain ⟨ea, a1, a2⟩ := ha.ex
  exact ⟨_, pw_and1 a1, a2⟩
theorem w_or1 {ta : En → Out Bool} (ha : Td X W C a ta) : Wd X W C (.BoolOp .Or [a] pos) ta := by
  obtain ⟨ea, a1, a2⟩ := ha.ex
  exact ⟨_, pw_or1 a1, a2⟩
theorem w_and {rest : List Expr} {ta tb : En → Out Bool} (ha : Td X W C a ta) (hb : Wd X W C (.BoolOp .And (b :: rest) pos) tb) : Wd X W C (.BoolOp .And (a :: b :: rest) pos) (tAndD ta tb) := by
  obtain ⟨ea, a1, a2⟩ := ha.ex
  obtain ⟨eb, b1, b2⟩ := hb.ex
  refine ⟨_, pw_and a1 b1, fun B G0 G H σ r Q eo p => a2 B G0 G H σ r _ eo ?_⟩
  refine Post.bind (R2 := rI Bool) p fun c r1 c' G1 H1 e1 s1 hc q => ?_
  cases hc
  cases c with
  | true => exact iteT (b2 B G0 G1 H1 σ r1 Q e1 q)
  | false => exact iteF (q.one e1 rfl)
theorem w_or {rest : List Expr} {ta tb : En → Out Bool} (ha : Td X W C a ta) (hb : Wd X W C (.BoolOp .Or (b :: rest) pos) tb) : Wd X W C (.BoolOp .Or (a :: b :: rest) pos) (tOrD ta tb) := by
  obtain ⟨ea, a1, a2⟩ := ha.ex
  obtain ⟨eb, b1, b2⟩ := hb.ex
  refine ⟨_, pw_or a1 b1, fun B G0 G H σ r Q eo p => a2 B G0 G H σ r _ eo ?_⟩
  refine Post.bind (R2 := rI Bool) p fun c r1 c' G1 H1 e1 s1 hc q => ?_
  cases hc
  cases c with
  | true => exact iteT (q.one e1 rfl)
  | false => exact iteF (b2 B G0 G1 H1 σ r1 Q e1 q)
theorem Wd.t {ta : En → Out Bool} (h : Wd X W C e ta) : Td X W C e ta := by
  obtain ⟨ea, a1, a2⟩ := h.ex
  exact ⟨_, a1.pt, a2⟩
theorem t_not {ta : En → Out Bool} (ha : Td X W C a ta) : Td X W C (.UnaryOp .Not a pos) (tNotD ta) := by
  obtain ⟨ea, a1, a2⟩ := ha.ex
  refine ⟨_, pt_not a1, fun B G0 G H σ r Q eo p => a2 B G0 G H σ r _ eo ?_⟩
  refine Post.bind (R2 := rI Bool) p fun c r1 c' G1 H1 e1 s1 hc q => ?_
  cases hc
  exact q.one e1 rfl
/-- a test whose value is True or False -/
@[simp] def tVal (t : En → Out PyData) : En → Out Bool := fun r => (t r).bind fun d r => match d with
  | .bool c => .ok c r
  | _ => .bot
theorem t_valD {ta : En → Out PyData} (ha : Ed X W C a ta) (he : ∀ whole, isTrue a X.env whole = (do let v ← whole; standAt a.pos; holding [v] (truthy v)) := by intro _; rfl) : Td X W C a (tVal ta) := by
  obtain ⟨ea, a1, a2⟩ := ha.ex
  refine ⟨_, pt_val a1 he, fun B G0 G H σ r Q eo p => a2 B G0 G H σ r _ eo ?_⟩
  refine Post.bind (R2 := rI Bool) p fun d r1 v G1 H1 e1 s1 hv q => ?_
  cases hv with
  | bl c => exact ⟨c, rfl, q.one e1 rfl⟩
  | _ => exact q.elim
/-- while xs: -/
@[simp] def tTruV (i : Nat) : En → Out Bool := fun r => match r[i]? with
  | some (.own l) => .ok (!l.isEmpty) r
  | _ => .bot
theorem t_truV (i : Nat) {x : Str} (hN : X.N[i]? = some x := by rfl) (hv : Vis X.env.scope x := by first | exact Or.inl rfl | exact Or.inr (Or.inl rfl) | exact Or.inr (Or.inr rfl)) (hd : (x == ("__debug__" : Str)) = false := by decide)
    (hcd : (x == ("__classdict__" : Str)) = false := by decide) (he : ∀ whole, isTrue (.Name x pos) X.env whole = (do let v ← whole; standAt (Expr.Name x pos).pos; holding [v] (truthy v)) := by intro _; rfl) : Td X W C (.Name x pos) (tTruV i) := by
  refine ⟨_, pt_truth (pe_var hN hv hd hcd) he, fun B G0 G H σ r Q eo p => ?_⟩
  unfold tTruV at p
  cases hr : r[i]? with
  | none => rw [hr] at p; exact p.elim
  | some s =>
    rw [hr] at p
    cases s with
    | own l =>
      obtain ⟨v, h1, q, vs, rfl, hG, hB, hH, ha⟩ := eo.slot i _ hr
      refine ⟨_, h1, !l.isEmpty, .inl ⟨vs, SqL.of hH, ?_⟩, p.one eo rfl⟩
      have hl := dpAll_len ha
      cases vs <;> cases l <;> first | rfl | cases hl
    | _ => exact p.elim

/-! ### built-ins -/
def fLen : PyData → Option PyData
  | .str y => if y.length ≤ sizeLine then some (.int y.length) else none
  | .list l => some (.int l.length)
  | .tuple l => some (.int l.length)
  | _ => none
theorem lenV_of {K : PySem.W.Frag} {B G0 G H : Hp} {σ : St} {r : En} {v : V} {d z : PyData} (eo : EO K B G0 G H σ r) (h : Dp K G v d) (hf : fLen d = some z) : ∃ n, LenV K v H n ∧ z = .int n := by
  cases h with
  | str y =>
    simp only [fLen] at hf
    split at hf
    · rename_i hz
      cases hf
      exact ⟨_, ⟨hz, rfl⟩, rfl⟩
    · cases hf
  | lst h1 h2 =>
    cases hf
    exact ⟨_, .inl ⟨_, eo.gh.seq h1, rfl⟩, by rw [dpAll_len h2]⟩
  | tup h1 h2 =>
    cases hf
    exact ⟨_, .inr ⟨_, same_t eo.gh h1, rfl⟩, by rw [dpAll_len h2]⟩
  | _ => cases hf
theorem d_len {p : Pos} {ta : En → Out PyData} (hm : X.mg "len" = none) (ha : Ed X W C a ta) (hg : Gl X "len" := by rfl) (hs : starEach (a :: []) X.env = (false, eval a X.env) :: starEach [] X.env := by rfl) (hpl : (backTo pos (starEach [] X.env)).any (·.1) = false := by rfl) :
    Ed X W C (.Call (.Name "len" p) [a] [] pos) (op1 fLen ta) := by
  obtain ⟨ea, a1, a2⟩ := ha.ex
  refine ⟨_, pe_callB call_len hg hm PySem.boot_len (pa_cons a1 pa_nil hs) (he := hs) (hpl := hpl), fun B G0 G H σ r Q eo p => ?_⟩
  refine j_op1 (R := rD) (rop := fun x H Q => tNil σ H fun xs H2 => ∃ y n, x :: xs = [y] ∧ LenV X.K y H2 n ∧ Q (.int n) H2) a2 (fun B G0 G H σ r x d s Q eo hx hf q => ?_) B G0 G H σ r Q eo p
  obtain ⟨n, hn, rfl⟩ := lenV_of eo hx hf
  exact ⟨x, n, rfl, hn, q _ G H eo (Same.refl G) (.int _)⟩
@[simp] def dLenV (i : Nat) : En → Out PyData := fun r => match r[i]? with
  | some (.own l) => .ok (.int l.length) r
  | some (.dat d) => ofO (fLen d) r
  | _ => .bot
theorem d_lenV (i : Nat) {x : Str} {p p2 : Pos} (hm : X.mg "len" = none) (hg : Gl X "len" := by rfl) (hN : X.N[i]? = some x := by rfl) (hv : Vis X.env.scope x := by first | exact Or.inl rfl | exact Or.inr (Or.inl rfl) | exact Or.inr (Or.inr rfl))
    (hd : (x == ("__debug__" : Str)) = false := by decide) (hcd : (x == ("__classdict__" : Str)) = false := by decide) (hs : starEach (.Name x p2 :: []) X.env = (false, eval (.Name x p2) X.env) :: starEach [] X.env := by rfl) (hpl : (backTo pos (starEach [] X.env)).any (·.1) = false := by rfl) :
    Ed X W C (.Call (.Name "len" p) [.Name x p2] [] pos) (dLenV i) := by
  refine ⟨_, pe_callB call_len hg hm PySem.boot_len (pa_cons (pe_var hN hv hd hcd) pa_nil hs) (he := hs) (hpl := hpl), fun B G0 G H σ r Q eo pp => ?_⟩
  unfold dLenV at pp
  cases hr : r[i]? with
  | none => rw [hr] at pp; exact pp.elim
  | some s =>
    rw [hr] at pp
    cases s with
    | own l =>
      obtain ⟨v, h1, q, vs, rfl, hG, hB, hH, ha⟩ := eo.slot i _ hr
      exact ⟨_, h1, _, vs.length, rfl, .inl ⟨vs, SqL.of hH, rfl⟩, by rw [dpAll_len ha]; exact pp.one eo (Dp.int _)⟩
    | dat d =>
      obtain ⟨v, h1, x, rfl, h2⟩ := eo.slot i _ hr
      cases hf : fLen d with
      | none =>
        have pp' : Post rD X.K W C B G0 G σ Q (ofO (fLen d) r) := pp
        rw [hf] at pp'
        exact pp'.elim
      | some z =>
        have pp' : Post rD X.K W C B G0 G σ Q (ofO (fLen d) r) := pp
        rw [hf] at pp'
        obtain ⟨n, hn, rfl⟩ := lenV_of eo h2 hf
        exact ⟨x, h1, x, n, rfl, hn, pp'.one eo (Dp.int _)⟩
    | _ => exact pp.elim
/-- isinstance(x, T), T a built-in class -/
@[simp] def tyName : PyData → String
  | .none => "NoneType"
  | .bool _ => "bool"
  | .int _ => "int"
  | .str _ => "str"
  | .list _ => "list"
  | .tuple _ => "tuple"
  | .dict _ => "dict"
@[simp] def isiT (T n : String) : Bool := n == T || (T == "int" && n == "bool")
@[simp] def fIsi (T : String) (d : PyData) : Option PyData := some (.bool (isiT T (tyName d)))
theorem tyX_of {K : PySem.W.Frag} {G H : Hp} {v : V} {d : PyData} (s : Same G H) (h : Dp K G v d) : TyX K H v (.type (tyName d)) := by
  cases h with
  | non => exact .base .non
  | bl b => exact .base (.bl b)
  | int i => exact .base (.int i)
  | str x => exact .base (.str x)
  | lst h1 h2 =>
    rcases h1 with (h1 | ⟨o, h1⟩) | ⟨o, its, n, hk, hc, _⟩
    · exact .base (.lst (s _ _ h1))
    · exact .base (.frz (s _ _ h1))
    · exact .kList hk hc
  | tup h1 h2 =>
    rcases h1 with (h1 | ⟨o, h1⟩) | ⟨o, its, n, hk, hc, _⟩
    · exact .base (.tup (s _ _ h1))
    · exact .fTuple (s _ _ h1)
    · exact .kTuple hk hc
/-- the five answers, by the kernel -/
def IsiOk (T : String) : Prop := ∀ (K : PySem.W.Frag) (n : String), n ∈ ["NoneType", "bool", "int", "str", "list", "tuple", "dict"] → PySem.W.kitOne K (.type n) (.type T) = some (isiT T n)
theorem tyName_mem (d : PyData) : tyName d ∈ ["NoneType", "bool", "int", "str", "list", "tuple", "dict"] := by
  cases d <;> simp [tyName]
theorem d_isi {T : Str} {T' : String} {p p3 : Pos} {ta : En → Out PyData} (hT : IsiOk T') (hm : X.mg "isinstance" = none) (hmT : X.mg T = none) (hbT : bootBuiltins T = some (.type T')) (ha : Ed X W C a ta) (hg : Gl X "isinstance" := by rfl) (hgT : Gl X T := by rfl)
    (hn : T ≠ "__name__" := by decide) (hd : (T == ("__debug__" : Str)) = false := by decide)
    (hs : starEach (a :: [.Name T p3]) X.env = (false, eval a X.env) :: starEach [.Name T p3] X.env := by rfl) (hs2 : starEach (.Name T p3 :: []) X.env = (false, eval (.Name T p3) X.env) :: starEach [] X.env := by rfl) (hpl : (backTo pos (starEach [.Name T p3] X.env)).any (·.1) = false := by rfl) :
    Ed X W C (.Call (.Name "isinstance" p) [a, .Name T p3] [] pos) (op1 (fIsi T') ta) := by
  obtain ⟨ea, a1, a2⟩ := ha.ex
  refine ⟨_, pe_callB call_isi hg hm PyProof.Rows.boot_isinstance (pa_cons a1 (pa_cons (pe_bltn (v := .ty T') hgT hmT hbT rfl hn hd) pa_nil hs2) hs) (he := hs) (hpl := hpl), fun B G0 G H σ r Q eo p => ?_⟩
  refine j_op1 (R := rD) (rop := fun x H Q => rIsi X.K [x, .ty T'] H Q) a2 (fun B G0 G H σ r x d s Q eo hx hf q => ?_) B G0 G H σ r Q eo p
  cases hf
  exact ⟨x, .ty T', .type (tyName d), .type T', _, rfl, .ty T', tyX_of eo.gh hx, hT X.K _ (tyName_mem d), q _ G H eo (Same.refl G) (.bl _)⟩
end

section
variable (i : Int) (x : Str) (xs : List PyData) (lo hi : Option Int)
@[simp] theorem fNeg_i : fNeg (.int i) = some (.int (-i)) := rfl
@[simp] theorem fIx_t : fIx (.tuple xs) (.int i) = atI xs i := rfl
@[simp] theorem fIx_l : fIx (.list xs) (.int i) = atI xs i := rfl
@[simp] theorem fIx_s : fIx (.str x) (.int i) = if x.length ≤ sizeLine then (atI x.cps.toList i).map fun c => .str ⟨#[c]⟩ else none := rfl
@[simp] theorem fSl_l : fSl (.list xs) lo hi = some (.own (cutL xs lo hi)) := rfl
@[simp] theorem fSl_t : fSl (.tuple xs) lo hi = some (.dat (.tuple (cutL xs lo hi))) := rfl
@[simp] theorem fSl_s : fSl (.str x) lo hi = if x.length ≤ sizeLine then some (.dat (.str (cutS x lo hi))) else none := rfl
@[simp] theorem fLen_s : fLen (.str x) = if x.length ≤ sizeLine then some (.int x.length) else none := rfl
@[simp] theorem fLen_l : fLen (.list xs) = some (.int xs.length) := rfl
@[simp] theorem fLen_t : fLen (.tuple xs) = some (.int xs.length) := rfl
end
end GM

namespace GM
open PySem PySem.Spec L2
/-! ### a def's promise by data -/
def spD (K : PySem.W.Frag) (C : Er → Addr) (n : Nat) (F : List PyData → Res) : Sp := fun vs H Q E => vs.length = n ∧ ∃ (G : Hp) (ds : List PyData), Same G H ∧ DpAll K G vs ds ∧
  match F ds with
  | .ok s => ∀ v G' H', Same H H' → Same G G' → Same G' H' → (∀ p, G' p ≠ none → G p ≠ none ∨ H p = none) → SlOk K H G' H' (some v) s → Q v H'
  | .err c => ∀ H', Same H H' → E (.ref (C c)) none H'
  | .bot => False
structure Fn (P : Program) (w : World) (K : PySem.W.Frag) (mg : Str → Option Value) (base : Heap) (C : Er → Addr) (k : Nat) (x : Str) (n : Nat) (F : List PyData → Res) : Prop where
  ex : ∃ (f : Addr) (fd : FuncData) (ps : List Str), FnOk P w K mg base (L2.CX P w) k f fd ps (spD K C n F) ∧ mg x = some (.ref f) ∧ PySem.W.keepIn K (.ref f) = true ∧ Binds K fd ps []
@[simp] def sCall (F : List PyData → Res) (t : En → Out (List PyData)) : En → Out Sl := fun r => (t r).bind fun ds r => match F ds with
  | .ok .emp => .bot
  | .ok s => .ok s r
  | .err c => .err c r
  | .bot => .bot
section
variable {X : Cx} {W : WX} {C : Er → Addr} {pos : Pos} {e a b : Expr} {es : List Expr}
theorem spD_of {K : PySem.W.Frag} {B G0 G H : Hp} {σ : St} {r : En} {n : Nat} {vs : List V} {ds : List PyData} {F : List PyData → Res} {Q : VK} (eo : EO K B G0 G H σ r) (hd : DpAll K G vs ds) (hn : vs.length = n)
    (p : Post rS K W C B G0 G σ Q (match F ds with
      | .ok .emp => .bot
      | .ok s => .ok s r
      | .err c => .err c r
      | .bot => .bot)) : spD K C n F vs H Q (WE W σ) := by
  refine ⟨hn, G, ds, eo.gh, hd, ?_⟩
  have st : ∀ G' H', Same H H' → Same G G' → Same G' H' → (∀ p, G' p ≠ none → G p ≠ none ∨ H p = none) → EO K B G0 G' H' σ r := fun G' H' h1 h2 h3 h4 =>
    eo.step (eo.bh.trans h1) h2 h3 (fun q hq => (h4 q hq).elim .inl fun z => .inr ⟨eo.bh.free z, eo.notMine z⟩) fun i q m => by
      obtain ⟨_, _, o, ho⟩ := eo.mine m
      rw [ho, h1 _ _ ho]
  cases hF : F ds with
  | bot => rw [hF] at p; exact p
  | err c =>
    rw [hF] at p
    exact fun H' h1 => p G H' (st G H' h1 (Same.refl G) (eo.gh.trans h1) fun q hq => .inl hq) (Same.refl G)
  | ok s =>
    rw [hF] at p
    refine fun v G' H' h1 h2 h3 h4 hs => ?_
    have e1 := st G' H' h1 h2 h3 h4
    cases s with
    | emp => exact p.elim
    | dat d =>
      obtain ⟨x, e2, e3⟩ := hs
      cases e2
      exact p v G' H' e1 h2 e3
    | own l =>
      obtain ⟨q, us, e2, e3, e4, e5, e6⟩ := hs
      cases e2
      exact p _ G' H' e1 h2 ⟨q, us, rfl, e3, eo.bh.free e4, e5, e6, fun i m => eo.notMine e4 i m⟩
    | dic l =>
      obtain ⟨q, us, e2, e3, e4, e5, e6⟩ := hs
      cases e2
      exact p _ G' H' e1 h2 ⟨q, us, rfl, e3, eo.bh.free e4, e5, e6, fun i m => eo.notMine e4 i m⟩
/-- f(e, ..), f a def of the text -/
theorem s_call {x : Str} {p : Pos} {k k' n : Nat} {F : List PyData → Res} {t : En → Out (List PyData)} (hF : Fn X.prog X.w X.K X.mg X.base C k x n F) (hr : Room k' X.A) (tk : Takes X W) (ha : Ad X W C (e :: es) t) (l : Len n t) (hk : k ≤ k' := by decide) (hg : Gl X x := by rfl)
    (hdb : (x == ("__debug__" : Str)) = false := by decide) (he : starEach (e :: es) X.env = (false, eval e X.env) :: starEach es X.env := by rfl) (hpl : (backTo pos (starEach es X.env)).any (·.1) = false := by rfl) :
    Es X W C (.Call (.Name x p) (e :: es) [] pos) (sCall F t) := by
  obtain ⟨f, fd, ps, F1, F2, F3, F4⟩ := hF.ex
  obtain ⟨ea, a1, a2⟩ := ha.ex
  refine ⟨_, pe_callS F1 (hr.mono hk) hg F2 F3 F4 (fun σ => passAt tk σ) a1 hdb he hpl, fun B G0 G H σ r Q eo p => a2 B G0 G H σ r _ eo (Post.len l ?_)⟩
  exact Post.bind (R2 := rS) p fun ds r1 vs G1 H1 e1 s1 hvs q hl => spD_of e1 hvs hl q

/-! ### methods of a list of one's own -/
theorem tyList {K : PySem.W.Frag} {H : Hp} {p : Addr} {vs : List V} (h : H p = some (.lst vs)) : tyV K "list" (.ref p) H := .inl ⟨rfl, vs, SqL.of h⟩
@[simp] def dPop (i : Nat) : En → Out PyData := fun r => match r[i]? with
  | some (.own l) => match l.getLast? with
    | some d => .ok d (r.set i (.own l.dropLast))
    | none => .bot
  | _ => .bot
theorem d_pop (i : Nat) {x : Str} {p apos : Pos} (hN : X.N[i]? = some x := by rfl) (hv : Vis X.env.scope x := by first | exact Or.inl rfl | exact Or.inr (Or.inl rfl) | exact Or.inr (Or.inr rfl)) (hd : (x == ("__debug__" : Str)) = false := by decide)
    (hcd : (x == ("__classdict__" : Str)) = false := by decide) (hbase : attributeBase (.Name x p) "pop" X.env (eval (.Name x p) X.env) = eval (.Name x p) X.env := by rfl) (hline : (apos.endLine == pos.line) = true := by rfl) :
    Ed X W C (.Call (.Attribute (.Name x p) "pop" apos) [] [] pos) (dPop i) := by
  refine ⟨_, pe_bm0 PySem.F.plainAttrs_list PySem.F.slot_list_pop PySem.F.type_list_pop mt_pop (pe_var hN hv hd hcd) hbase hline, fun B G0 G H σ r Q eo pp => ?_⟩
  unfold dPop at pp
  cases hr : r[i]? with
  | none => rw [hr] at pp; exact pp.elim
  | some s =>
    rw [hr] at pp
    cases s with
    | own l =>
      obtain ⟨v, h1, q, vs, rfl, hG, hB, hH, ha⟩ := eo.slot i _ hr
      have pp' : Post rD X.K W C B G0 G σ Q (match l.getLast? with | some d => .ok d (r.set i (.own l.dropLast)) | none => .bot) := pp
      cases hl : l.getLast? with
      | none => rw [hl] at pp'; exact pp'.elim
      | some d =>
        rw [hl] at pp'
        obtain ⟨y, hy, dy⟩ := dpAll_get ha (l.length - 1) d (by rw [← List.getLast?_eq_getElem?]; exact hl)
        refine ⟨_, h1, tyList hH, q, vs, y, rfl, rfl, hH, by rw [dpAll_len ha]; exact hy, ?_⟩
        refine pp'.one (eo.mut h1 hr rfl (s := .own l.dropLast) ⟨q, _, rfl, hG, hB, upd_same, dpAll_dropLast ha⟩ rfl) dy
    | _ => exact pp.elim

/-! ### statements -/
inductive Fl where
  | nx | rt (s : Sl) | bk | ct
def PostF (K : PySem.W.Frag) (W : WX) (C : Er → Addr) (B G0 G : Hp) (D : Ends) : Out Fl → Prop
  | .ok .nx r => ∀ σ G' H', EO K B G0 G' H' σ r → Same G G' → D.nx σ H'
  | .ok (.rt s) r => s.mine = s.mine ∧ ∀ v σ G' H', EO K B G0 G' H' σ r → Same G G' → SlOk K B G' H' (some v) s → D.rt v H'
  | .ok .bk r => ∀ σ G' H', EO K B G0 G' H' σ r → Same G G' → D.bk σ H'
  | .ok .ct r => ∀ σ G' H', EO K B G0 G' H' σ r → Same G G' → D.ct σ H'
  | .err c r => ∀ σ G' H', EO K B G0 G' H' σ r → Same G G' → W (.ref (C c)) none σ H'
  | .bot => False
theorem PostF.up {K : PySem.W.Frag} {B G0 G G' : Hp} {D : Ends} {o : Out Fl} (h : PostF K W C B G0 G D o) (s : Same G G') : PostF K W C B G0 G' D o := by
  cases o with
  | ok f r =>
    cases f with
    | nx => exact fun σ G2 H2 e s2 => h σ G2 H2 e (s.trans s2)
    | rt z => exact ⟨rfl, fun v σ G2 H2 e s2 => h.2 v σ G2 H2 e (s.trans s2)⟩
    | bk => exact fun σ G2 H2 e s2 => h σ G2 H2 e (s.trans s2)
    | ct => exact fun σ G2 H2 e s2 => h σ G2 H2 e (s.trans s2)
  | err c r => exact fun σ G2 H2 e s2 => h σ G2 H2 e (s.trans s2)
  | bot => exact h
theorem PostF.bind {α β : Type} {R : Rl α β} {K : PySem.W.Frag} {B G0 G : Hp} {σ : St} {D : Ends} {Q : β → Hp → Prop} {o : Out α} {f : α → En → Out Fl} (h : PostF K W C B G0 G D (o.bind f))
    (hk : ∀ a r b G' H', EO K B G0 G' H' σ r → Same G G' → R K B σ G' H' r b a → PostF K W C B G0 G' D (f a r) → Q b H') : Post R K W C B G0 G σ Q o := by
  cases o with
  | ok a r => exact fun b G' H' e s hr => hk a r b G' H' e s hr (h.up s)
  | err c r => exact fun G' H' e s => h σ G' H' e s
  | bot => exact h
def SJ (X : Cx) (W : WX) (C : Er → Addr) (ts : TS) (g : En → Out Fl) : Prop := ∀ (B G0 G H : Hp) (σ : St) (r : En) (D : Ends), EO X.K B G0 G H σ r → PostF X.K W C B G0 G D (g r) → ts D σ H
structure Sd (X : Cx) (W : WX) (C : Er → Addr) (st : Stmt) (g : En → Out Fl) : Prop where
  ex : ∃ ts, PS X st ts ∧ SJ X W C ts g
structure Bd (X : Cx) (W : WX) (C : Er → Addr) (st : List Stmt) (g : En → Out Fl) : Prop where
  ex : ∃ ts, PSs X st ts ∧ SJ X W C ts g
@[simp] def gNx : En → Out Fl := fun r => .ok .nx r
@[simp] def gSeq (g h : En → Out Fl) : En → Out Fl := fun r => match g r with
  | .ok .nx r => h r
  | o => o
@[simp] def gSet (i : Nat) (t : En → Out Sl) : En → Out Fl := fun r => (t r).bind fun s r => .ok .nx (r.set i s)
@[simp] def gRet (t : En → Out Sl) : En → Out Fl := fun r => (t r).bind fun s r => .ok (.rt s) r
@[simp] def gRetV (i : Nat) : En → Out Fl := fun r => match r[i]? with
  | some .emp => .bot
  | some s => .ok (.rt s) r
  | none => .bot
@[simp] def gIf (c : En → Out Bool) (g h : En → Out Fl) : En → Out Fl := fun r => (c r).bind fun b r => if b = true then g r else h r
@[simp] def gDrop (t : En → Out PyData) : En → Out Fl := fun r => (t r).bind fun _ r => .ok .nx r
variable {st : Stmt} {sts : List Stmt} {g h : En → Out Fl}
theorem b_nil : Bd X W C [] gNx := ⟨_, pss_nil, fun B G0 G H σ r D eo p => p σ G H eo (Same.refl G)⟩
theorem b_one (hs : Sd X W C st g) : Bd X W C [st] g := by
  obtain ⟨ts, s1, s2⟩ := hs.ex
  exact ⟨_, pss_one s1, s2⟩
theorem b_cons (hs : Sd X W C st g) (hb : Bd X W C sts h) : Bd X W C (st :: sts) (gSeq g h) := by
  obtain ⟨ts, s1, s2⟩ := hs.ex
  obtain ⟨tb, b1, b2⟩ := hb.ex
  refine ⟨_, pss_cons s1 b1, fun B G0 G H σ r D eo p => s2 B G0 G H σ r _ eo ?_⟩
  unfold gSeq at p
  cases hg : g r with
  | bot => rw [hg] at p; exact p
  | err c r1 => rw [hg] at p; exact p
  | ok f r1 =>
    rw [hg] at p
    cases f with
    | nx => exact fun σ1 G1 H1 e1 s1' => b2 B G0 G1 H1 σ1 r1 D e1 (PostF.up p s1')
    | rt s => exact p
    | bk => exact p
    | ct => exact p
theorem b_never {sts : List Stmt} : Bd X W C sts (fun _ => .bot) := ⟨_, pss_never, fun B G0 G H σ r D eo p => p⟩
theorem s_never : Sd X W C st (fun _ => .bot) := ⟨_, ps_never, fun B G0 G H σ r D eo p => p⟩
theorem s_set (i : Nat) {x : Str} {pos' : Pos} {t : En → Out Sl} (hnd : X.N.Nodup) (he : Es X W C e t) (hN : X.N[i]? = some x := by rfl) (hx : Loc X.env.scope x := by first | exact Or.inl rfl | exact Or.inr rfl) (hs : swapsWith e (some (.Name x pos')) pos.line X.env = pure false := by rfl)
    (hf : X.fn x = true ∨ X.env.scope.names.lookup x = some .local := by first | exact .inl rfl | exact .inr rfl | assumption) : Sd X W C (.Assign [.Name x pos'] e pos) (gSet i t) := by
  obtain ⟨ea, a1, a2⟩ := he.ex
  refine ⟨_, ps_set (i := i) hnd hN hx a1 hs hf, fun B G0 G H σ r D eo p => a2 B G0 G H σ r _ eo ?_⟩
  exact PostF.bind (R := rS) p fun s r1 v G1 H1 e1 s1 hv q => q _ G1 H1 (e1.set i hv) (Same.refl G1)
theorem s_drop {t : En → Out PyData} (he : Ed X W C e t) (hs : swapsWith e none pos.line X.env = pure false := by rfl) : Sd X W C (.Expr e pos) (gDrop t) := by
  obtain ⟨ea, a1, a2⟩ := he.ex
  refine ⟨_, ps_expr a1 hs, fun B G0 G H σ r D eo p => a2 B G0 G H σ r _ eo ?_⟩
  exact PostF.bind (R := rD) p fun s r1 v G1 H1 e1 s1 hv q => q σ G1 H1 e1 (Same.refl G1)
theorem s_ret {t : En → Out Sl} (he : Es X W C e t) : Sd X W C (.Return (some e) pos) (gRet t) := by
  obtain ⟨ea, a1, a2⟩ := he.ex
  refine ⟨_, ps_ret a1, fun B G0 G H σ r D eo p => a2 B G0 G H σ r _ eo ?_⟩
  exact PostF.bind (R := rS) p fun s r1 v G1 H1 e1 s1 hv q => q.2 v σ G1 H1 e1 (Same.refl G1) hv.slOk
theorem s_retV (i : Nat) {x : Str} {p : Pos} (hN : X.N[i]? = some x := by rfl) (hv : Vis X.env.scope x := by first | exact Or.inl rfl | exact Or.inr (Or.inl rfl) | exact Or.inr (Or.inr rfl)) (hd : (x == ("__debug__" : Str)) = false := by decide)
    (hcd : (x == ("__classdict__" : Str)) = false := by decide) : Sd X W C (.Return (some (.Name x p)) pos) (gRetV i) := by
  refine ⟨_, ps_ret (pe_var hN hv hd hcd), fun B G0 G H σ r D eo p => ?_⟩
  unfold gRetV at p
  cases hr : r[i]? with
  | none => rw [hr] at p; exact p.elim
  | some s =>
    obtain ⟨v, h1, h2⟩ := eo.slot i _ hr
    rw [hr] at p
    cases s with
    | emp => exact p.elim
    | dat d =>
      obtain ⟨x, rfl, _⟩ := id h2
      exact ⟨x, h1, p.2 x σ G H eo (Same.refl G) h2⟩
    | own l =>
      obtain ⟨q, vs, rfl, _⟩ := id h2
      exact ⟨_, h1, p.2 _ σ G H eo (Same.refl G) h2⟩
    | dic l =>
      obtain ⟨q, vs, rfl, _⟩ := id h2
      exact ⟨_, h1, p.2 _ σ G H eo (Same.refl G) h2⟩
theorem s_retN : Sd X W C (.Return none pos) (fun r => .ok (.rt (.dat .none)) r) :=
  ⟨_, ps_retN, fun B G0 G H σ r D eo p => p.2 .non σ G H eo (Same.refl G) ⟨.non, rfl, .non⟩⟩
theorem s_if {c : Expr} {sa sb : List Stmt} {t : En → Out Bool} (hc : Td X W C c t) (ha : Bd X W C sa g) (hb : Bd X W C sb h) : Sd X W C (.If c sa sb pos) (gIf t g h) := by
  obtain ⟨ec, c1, c2⟩ := hc.ex
  obtain ⟨ta, a1, a2⟩ := ha.ex
  obtain ⟨tb, b1, b2⟩ := hb.ex
  refine ⟨_, ps_if c1 a1 b1, fun B G0 G H σ r D eo p => c2 B G0 G H σ r _ eo ?_⟩
  refine PostF.bind (R := rI Bool) p fun c r1 c' G1 H1 e1 s1 hc q => ?_
  cases hc
  cases c with
  | true => exact iteT (a2 B G0 G1 H1 σ r1 D e1 q)
  | false => exact iteF (b2 B G0 G1 H1 σ r1 D e1 q)
theorem s_pass : Sd X W C (.Pass pos) gNx := ⟨_, ps_pass, fun B G0 G H σ r D eo p => p σ G H eo (Same.refl G)⟩

/-! ### lists of one's own changed -/
@[simp] def gApp (i : Nat) (t : En → Out PyData) : En → Out Fl := fun r => match r[i]? with
  | some (.own _) => (t r).bind fun d r => match r[i]? with
    | some (.own l) => if l.length < sizeLine then .ok .nx (r.set i (.own (l ++ [d]))) else .bot
    | _ => .bot
  | _ => .bot
theorem s_app (i : Nat) {x : Str} {p apos cpos : Pos} {t : En → Out PyData} (ha : Ed X W C a t) (hN : X.N[i]? = some x := by rfl) (hv : Vis X.env.scope x := by first | exact Or.inl rfl | exact Or.inr (Or.inl rfl) | exact Or.inr (Or.inr rfl)) (hd : (x == ("__debug__" : Str)) = false := by decide)
    (hcd : (x == ("__classdict__" : Str)) = false := by decide) (hbase : attributeBase (.Name x p) "append" X.env (eval (.Name x p) X.env) = eval (.Name x p) X.env := by rfl)
    (hfew : ((backTo cpos (starEach (a :: []) X.env)).all (fun x => !x.1) && (backToKw cpos (keywordEach [] X.env)).all (fun x => x.1.isSome) && decide ((a :: []).length + ([] : List Keyword).length + (if ([] : List Keyword).isEmpty then 0 else 1) < 30)) = true := by rfl)
    (hline : (apos.endLine == cpos.line) = true := by rfl) (hs : starEach (a :: []) X.env = (false, eval a X.env) :: starEach [] X.env := by rfl) (hpl : (backTo cpos (starEach [] X.env)).any (·.1) = false := by rfl)
    (hsw : swapsWith (.Call (.Attribute (.Name x p) "append" apos) [a] [] cpos) none pos.line X.env = pure false := by rfl) :
    Sd X W C (.Expr (.Call (.Attribute (.Name x p) "append" apos) [a] [] cpos) pos) (gApp i t) := by
  obtain ⟨ea, a1, a2⟩ := ha.ex
  refine ⟨_, ps_expr (pe_bm PySem.F.plainAttrs_list PySem.F.slot_list_append PySem.F.type_list_append mt_append (pe_var hN hv hd hcd) (pa_cons a1 pa_nil hs) hbase hfew hline hs hpl) hsw, fun B G0 G H σ r D eo pp => ?_⟩
  unfold gApp at pp
  cases hr : r[i]? with
  | none => rw [hr] at pp; exact pp.elim
  | some s =>
    rw [hr] at pp
    cases s with
    | own l0 =>
      obtain ⟨v, h1, q, vs0, rfl, hG0, hB0, hH0, ha0⟩ := eo.slot i _ hr
      refine ⟨_, h1, tyList hH0, a2 B G0 G H σ r _ eo ?_⟩
      refine PostF.bind (R := rD) pp fun d r1 v1 G1 H1 e1 s1 hv1 q1 => ?_
      cases hr1 : r1[i]? with
      | none => rw [hr1] at q1; exact q1.elim
      | some s1' =>
        rw [hr1] at q1
        cases s1' with
        | own l =>
          obtain ⟨v2, k1, p2, vs, k2, k3, k4, k5, k6⟩ := e1.slot i _ hr1
          rw [h1] at k1
          cases k1
          cases k2
          have q2 : PostF X.K W C B G0 G1 D (if l.length < sizeLine then .ok .nx (r1.set i (.own (l ++ [d]))) else .bot) := q1
          split at q2
          · rename_i hl
            refine ⟨q, vs, v1, rfl, rfl, k5, by rw [dpAll_len k6]; exact hl, ?_⟩
            exact q2 σ G1 _ (e1.mut h1 hr1 rfl (s := .own (l ++ [d])) ⟨q, _, rfl, k3, k4, upd_same, dpAll_append k6 (.cons hv1 .nil)⟩ rfl) (Same.refl G1)
          · exact q2.elim
        | _ => exact q1.elim
    | _ => exact pp.elim
@[simp] def gRev (i : Nat) : En → Out Fl := fun r => match r[i]? with
  | some (.own l) => .ok .nx (r.set i (.own l.reverse))
  | _ => .bot
theorem s_rev (i : Nat) {x : Str} {p apos cpos : Pos} (hN : X.N[i]? = some x := by rfl) (hv : Vis X.env.scope x := by first | exact Or.inl rfl | exact Or.inr (Or.inl rfl) | exact Or.inr (Or.inr rfl)) (hd : (x == ("__debug__" : Str)) = false := by decide)
    (hcd : (x == ("__classdict__" : Str)) = false := by decide) (hbase : attributeBase (.Name x p) "reverse" X.env (eval (.Name x p) X.env) = eval (.Name x p) X.env := by rfl) (hline : (apos.endLine == cpos.line) = true := by rfl)
    (hsw : swapsWith (.Call (.Attribute (.Name x p) "reverse" apos) [] [] cpos) none pos.line X.env = pure false := by rfl) :
    Sd X W C (.Expr (.Call (.Attribute (.Name x p) "reverse" apos) [] [] cpos) pos) (gRev i) := by
  refine ⟨_, ps_expr (pe_bm0 PySem.F.plainAttrs_list PySem.F.slot_list_reverse PySem.F.type_list_reverse mt_reverse (pe_var hN hv hd hcd) hbase hline) hsw, fun B G0 G H σ r D eo pp => ?_⟩
  unfold gRev at pp
  cases hr : r[i]? with
  | none => rw [hr] at pp; exact pp.elim
  | some s =>
    rw [hr] at pp
    cases s with
    | own l =>
      obtain ⟨v, h1, q, vs, rfl, hG, hB, hH, ha⟩ := eo.slot i _ hr
      refine ⟨_, h1, tyList hH, q, vs, rfl, rfl, hH, ?_⟩
      exact pp σ G _ (eo.mut h1 hr rfl (s := .own l.reverse) ⟨q, _, rfl, hG, hB, upd_same, dpAll_reverse ha⟩ rfl) (Same.refl G)
    | _ => exact pp.elim
/-- xs.extend(e), e a new list -/
@[simp] def gExt (i : Nat) (t : En → Out Sl) : En → Out Fl := fun r => match r[i]? with
  | some (.own _) => (t r).bind fun s r => match r[i]?, s with
    | some (.own l), .own m => if l.length + m.length ≤ sizeLine then .ok .nx (r.set i (.own (l ++ m))) else .bot
    | _, _ => .bot
  | _ => .bot
theorem s_ext (i : Nat) {x : Str} {p apos cpos : Pos} {t : En → Out Sl} (ha : Es X W C a t) (hN : X.N[i]? = some x := by rfl) (hv : Vis X.env.scope x := by first | exact Or.inl rfl | exact Or.inr (Or.inl rfl) | exact Or.inr (Or.inr rfl)) (hd : (x == ("__debug__" : Str)) = false := by decide)
    (hcd : (x == ("__classdict__" : Str)) = false := by decide) (hbase : attributeBase (.Name x p) "extend" X.env (eval (.Name x p) X.env) = eval (.Name x p) X.env := by rfl)
    (hfew : ((backTo cpos (starEach (a :: []) X.env)).all (fun x => !x.1) && (backToKw cpos (keywordEach [] X.env)).all (fun x => x.1.isSome) && decide ((a :: []).length + ([] : List Keyword).length + (if ([] : List Keyword).isEmpty then 0 else 1) < 30)) = true := by rfl)
    (hline : (apos.endLine == cpos.line) = true := by rfl) (hs : starEach (a :: []) X.env = (false, eval a X.env) :: starEach [] X.env := by rfl) (hpl : (backTo cpos (starEach [] X.env)).any (·.1) = false := by rfl)
    (hsw : swapsWith (.Call (.Attribute (.Name x p) "extend" apos) [a] [] cpos) none pos.line X.env = pure false := by rfl) :
    Sd X W C (.Expr (.Call (.Attribute (.Name x p) "extend" apos) [a] [] cpos) pos) (gExt i t) := by
  obtain ⟨ea, a1, a2⟩ := ha.ex
  refine ⟨_, ps_expr (pe_bm PySem.F.plainAttrs_list PySem.F.slot_list_extend PySem.F.type_list_extend mt_extend (pe_var hN hv hd hcd) (pa_cons a1 pa_nil hs) hbase hfew hline hs hpl) hsw, fun B G0 G H σ r D eo pp => ?_⟩
  unfold gExt at pp
  cases hr : r[i]? with
  | none => rw [hr] at pp; exact pp.elim
  | some s =>
    rw [hr] at pp
    cases s with
    | own l0 =>
      obtain ⟨v, h1, q, vs0, rfl, hG0, hB0, hH0, ha0⟩ := eo.slot i _ hr
      refine ⟨_, h1, tyList hH0, a2 B G0 G H σ r _ eo ?_⟩
      refine PostF.bind (R := rS) pp fun s' r1 v1 G1 H1 e1 s1 hv1 q1 => ?_
      cases hr1 : r1[i]? with
      | none => rw [hr1] at q1; exact q1.elim
      | some s1' =>
        rw [hr1] at q1
        cases s1' with
        | own l =>
          cases s' with
          | own m =>
            obtain ⟨v2, k1, p2, vs, k2, k3, k4, k5, k6⟩ := e1.slot i _ hr1
            rw [h1] at k1
            cases k1
            cases k2
            obtain ⟨qb, zs, rfl, z1, z2, z3, z4, z5⟩ := hv1
            have q2 : PostF X.K W C B G0 G1 D (if l.length + m.length ≤ sizeLine then .ok .nx (r1.set i (.own (l ++ m))) else .bot) := q1
            split at q2
            · rename_i hl
              refine ⟨q, qb, vs, zs, rfl, rfl, k5, z3, by rw [dpAll_len k6, dpAll_len z4]; exact hl, ?_⟩
              exact q2 σ G1 _ (e1.mut h1 hr1 rfl (s := .own (l ++ m)) ⟨q, _, rfl, k3, k4, upd_same, dpAll_append k6 z4⟩ rfl) (Same.refl G1)
            · exact q2.elim
          | _ => exact q1.elim
        | _ => exact q1.elim
    | _ => exact pp.elim
/-- a name whose list of one's own is handed over for a moment (xs.extend(ys)) -/
@[simp] def gExtV (i j : Nat) : En → Out Fl := fun r => match r[i]?, r[j]? with
  | some (.own l), some (.own m) => if l.length + m.length ≤ sizeLine then .ok .nx (r.set i (.own (l ++ m))) else .bot
  | _, _ => .bot
theorem s_extV (i j : Nat) {x y : Str} {p p2 apos cpos : Pos} (hN : X.N[i]? = some x := by rfl) (hv : Vis X.env.scope x := by first | exact Or.inl rfl | exact Or.inr (Or.inl rfl) | exact Or.inr (Or.inr rfl)) (hd : (x == ("__debug__" : Str)) = false := by decide)
    (hcd : (x == ("__classdict__" : Str)) = false := by decide) (hNy : X.N[j]? = some y := by rfl) (hvy : Vis X.env.scope y := by first | exact Or.inl rfl | exact Or.inr (Or.inl rfl) | exact Or.inr (Or.inr rfl)) (hdy : (y == ("__debug__" : Str)) = false := by decide)
    (hcdy : (y == ("__classdict__" : Str)) = false := by decide) (hbase : attributeBase (.Name x p) "extend" X.env (eval (.Name x p) X.env) = eval (.Name x p) X.env := by rfl)
    (hfew : ((backTo cpos (starEach (.Name y p2 :: []) X.env)).all (fun x => !x.1) && (backToKw cpos (keywordEach [] X.env)).all (fun x => x.1.isSome) && decide ((Expr.Name y p2 :: []).length + ([] : List Keyword).length + (if ([] : List Keyword).isEmpty then 0 else 1) < 30)) = true := by rfl)
    (hline : (apos.endLine == cpos.line) = true := by rfl) (hs : starEach (.Name y p2 :: []) X.env = (false, eval (.Name y p2) X.env) :: starEach [] X.env := by rfl) (hpl : (backTo cpos (starEach [] X.env)).any (·.1) = false := by rfl)
    (hsw : swapsWith (.Call (.Attribute (.Name x p) "extend" apos) [.Name y p2] [] cpos) none pos.line X.env = pure false := by rfl) :
    Sd X W C (.Expr (.Call (.Attribute (.Name x p) "extend" apos) [.Name y p2] [] cpos) pos) (gExtV i j) := by
  refine ⟨_, ps_expr (pe_bm PySem.F.plainAttrs_list PySem.F.slot_list_extend PySem.F.type_list_extend mt_extend (pe_var hN hv hd hcd) (pa_cons (pe_var hNy hvy hdy hcdy) pa_nil hs) hbase hfew hline hs hpl) hsw, fun B G0 G H σ r D eo pp => ?_⟩
  unfold gExtV at pp
  cases hr : r[i]? with
  | none => rw [hr] at pp; exact pp.elim
  | some s =>
    cases hrj : r[j]? with
    | none => rw [hr, hrj] at pp; cases s <;> exact pp.elim
    | some s' =>
      rw [hr, hrj] at pp
      cases s with
      | own l =>
        cases s' with
        | own m =>
          obtain ⟨v, h1, q, vs, rfl, hG, hB, hH, ha⟩ := eo.slot i _ hr
          obtain ⟨v', h1', q', vs', rfl, hG', hB', hH', ha'⟩ := eo.slot j _ hrj
          have q2 : PostF X.K W C B G0 G D (if l.length + m.length ≤ sizeLine then .ok .nx (r.set i (.own (l ++ m))) else .bot) := pp
          split at q2
          · rename_i hl
            refine ⟨_, h1, tyList hH, _, h1', q, q', vs, vs', rfl, rfl, hH, hH', by rw [dpAll_len ha, dpAll_len ha']; exact hl, ?_⟩
            exact q2 σ G _ (eo.mut h1 hr rfl (s := .own (l ++ m)) ⟨q, _, rfl, hG, hB, upd_same, dpAll_append ha ha'⟩ rfl) (Same.refl G)
          · exact q2.elim
        | _ => exact pp.elim
      | _ => exact pp.elim

/-! ### while -/
def iterW (c : En → Out Bool) (g : En → Out Fl) : Nat → En → Out Fl
  | 0, _ => .bot
  | n + 1, r => (c r).bind fun b r => if b = true then (match g r with
      | .ok .nx r => iterW c g n r
      | .ok .ct r => iterW c g n r
      | .ok .bk r => .ok .nx r
      | o => o) else .ok .nx r
theorem iterW_mono (c : En → Out Bool) (g : En → Out Fl) : ∀ (n : Nat) (r : En), iterW c g n r ≠ .bot → iterW c g (n + 1) r = iterW c g n r
  | 0, r, h => absurd rfl h
  | n + 1, r, h => by
    rw [iterW] at h ⊢
    rw [iterW]
    cases hc : c r with
    | bot => rfl
    | err e r1 => rfl
    | ok b r1 =>
      rw [hc] at h
      simp only [bind_ok] at h ⊢
      cases b with
      | false => rfl
      | true =>
        simp only [if_pos] at h ⊢
        cases hg : g r1 with
        | bot => rfl
        | err e r2 => rfl
        | ok f r2 =>
          rw [hg] at h
          cases f with
          | nx => exact iterW_mono c g n r2 h
          | ct => exact iterW_mono c g n r2 h
          | bk => rfl
          | rt s => rfl
theorem iterW_le (c : En → Out Bool) (g : En → Out Fl) {n : Nat} {r : En} (h : iterW c g n r ≠ .bot) : ∀ k, iterW c g (n + k) r = iterW c g n r
  | 0 => rfl
  | k + 1 => by
    have ih := iterW_le c g h k
    rw [← Nat.add_assoc, iterW_mono c g (n + k) r (by rw [ih]; exact h), ih]
theorem iterW_eq (c : En → Out Bool) (g : En → Out Fl) {n m : Nat} {r : En} (h : iterW c g n r ≠ .bot) (k : iterW c g m r ≠ .bot) : iterW c g n r = iterW c g m r := by
  rcases Nat.le_total n m with q | q
  · obtain ⟨j, rfl⟩ := Nat.exists_eq_add_of_le q
    exact (iterW_le c g h j).symm
  · obtain ⟨j, rfl⟩ := Nat.exists_eq_add_of_le q
    exact iterW_le c g k j
open Classical in
noncomputable def gWhile (c : En → Out Bool) (g : En → Out Fl) : En → Out Fl := fun r => if h : ∃ n, iterW c g n r ≠ .bot then iterW c g (Classical.choose h) r else .bot
theorem gWhile_of {c : En → Out Bool} {g : En → Out Fl} {n : Nat} {r : En} (h : iterW c g n r ≠ .bot) : gWhile c g r = iterW c g n r := by
  have hx : ∃ n, iterW c g n r ≠ .bot := ⟨n, h⟩
  unfold gWhile
  rw [dif_pos hx]
  exact iterW_eq c g (Classical.choose_spec hx) h
theorem gWhile_unfold (c : En → Out Bool) (g : En → Out Fl) (r : En) : gWhile c g r = (c r).bind fun b r => if b = true then (match g r with
      | .ok .nx r => gWhile c g r
      | .ok .ct r => gWhile c g r
      | .ok .bk r => .ok .nx r
      | o => o) else .ok .nx r := by
  by_cases hx : ∃ n, iterW c g n r ≠ .bot
  · obtain ⟨n, hn⟩ := hx
    cases n with
    | zero => exact absurd rfl hn
    | succ n =>
      rw [gWhile_of hn]
      rw [iterW] at hn ⊢
      cases hc : c r with
      | bot => rfl
      | err e r1 => rfl
      | ok b r1 =>
        rw [hc] at hn
        simp only [bind_ok] at hn ⊢
        cases b with
        | false => rfl
        | true =>
          simp only [if_pos] at hn ⊢
          cases hg : g r1 with
          | bot => rfl
          | err e r2 => rfl
          | ok f r2 =>
            rw [hg] at hn
            cases f with
            | nx => exact (gWhile_of hn).symm
            | ct => exact (gWhile_of hn).symm
            | bk => rfl
            | rt s => rfl
  · have h0 : gWhile c g r = .bot := by
      unfold gWhile
      rw [dif_neg hx]
    rw [h0]
    have all : ∀ n, iterW c g n r = .bot := fun n => Classical.byContradiction fun z => hx ⟨n, z⟩
    cases hc : c r with
    | bot => rfl
    | err e r1 =>
      have := all 1
      rw [iterW, hc] at this
      cases this
    | ok b r1 =>
      simp only [bind_ok]
      cases b with
      | false =>
        have := all 1
        rw [iterW, hc] at this
        cases this
      | true =>
        simp only [if_pos]
        cases hg : g r1 with
        | bot => rfl
        | err e r2 =>
          have := all 1
          rw [iterW, hc, bind_ok, if_pos rfl, hg] at this
          cases this
        | ok f r2 =>
          cases f with
          | nx =>
            show Out.bot = gWhile c g r2
            unfold gWhile
            rw [dif_neg]
            rintro ⟨n, hn⟩
            have := all (n + 1)
            rw [iterW, hc, bind_ok, if_pos rfl, hg] at this
            exact hn this
          | ct =>
            show Out.bot = gWhile c g r2
            unfold gWhile
            rw [dif_neg]
            rintro ⟨n, hn⟩
            have := all (n + 1)
            rw [iterW, hc, bind_ok, if_pos rfl, hg] at this
            exact hn this
          | bk =>
            have := all 1
            rw [iterW, hc, bind_ok, if_pos rfl, hg] at this
            cases this
          | rt s =>
            have := all 1
            rw [iterW, hc, bind_ok, if_pos rfl, hg] at this
            cases this
theorem s_while {c : Expr} {t : En → Out Bool} (hp : PassesOwn (model X.prog X.w) X.A X.env X.xe) (hc : Td X W C c t) (hb : Bd X W C sts g) : Sd X W C (.While c sts [] pos) (gWhile t g) := by
  obtain ⟨ec, c1, c2⟩ := hc.ex
  obtain ⟨tb, b1, b2⟩ := hb.ex
  refine ⟨_, ps_while hp c1 b1, fun B G0 G H σ r D eo p => ?_⟩
  have hx : ∃ n, iterW t g n r ≠ .bot := by
    apply Classical.byContradiction
    intro hx
    unfold gWhile at p
    rw [dif_neg hx] at p
    exact p
  obtain ⟨n, hn⟩ := hx
  rw [gWhile_of hn] at p
  refine ⟨fun m σ' H' => ∃ G' r', EO X.K B G0 G' H' σ' r' ∧ PostF X.K W C B G0 G' D (iterW t g m r'), ⟨n, G, r, eo, p⟩, ?_⟩
  rintro m σ1 H1 ⟨G1, r1, e1, p1⟩
  cases m with
  | zero => exact p1.elim
  | succ m =>
    refine c2 B G0 G1 H1 σ1 r1 _ e1 ?_
    rw [iterW] at p1
    refine PostF.bind (R := rI Bool) p1 fun b r2 b' G2 H2 e2 s2 hb' q => ?_
    cases hb'
    cases b with
    | false => exact iteF (q σ1 G2 H2 e2 (Same.refl G2))
    | true =>
      refine iteT ⟨fun σ' H' => ∃ G' r', EO X.K B G0 G' H' σ' r' ∧ PostF X.K W C B G0 G' D (iterW t g m r'), fun σ' H' hN => ⟨m, Nat.lt_succ_self m, hN⟩, b2 B G0 G2 H2 σ1 r2 _ e2 ?_⟩
      rw [if_pos rfl] at q
      cases hg : g r2 with
      | bot => rw [hg] at q; exact q
      | err e r3 => rw [hg] at q; exact q
      | ok f r3 =>
        rw [hg] at q
        cases f with
        | nx => exact fun σ' G' H' e' s' => ⟨G', r3, e', PostF.up q s'⟩
        | ct => exact fun σ' G' H' e' s' => ⟨G', r3, e', PostF.up q s'⟩
        | bk => exact q
        | rt s => exact q
end
end GM

namespace GM
open PySem PySem.Spec L2
/-! ### what is walked -/
structure Wk (K : PySem.W.Frag) (J : It) (G : Hp) (ds : List PyData) : Prop where
  go : ∀ i H, Same G H → i < ds.length → J.go i H
  stop : ∀ i H, Same G H → ds.length ≤ i → J.stop i H
  yld : ∀ (i : Nat) (x : V) (B G0 G1 H H' : Hp) (σ : St) (r : En), EO K B G0 G1 H σ r → Same G G1 → J.yld i H x H' → i < ds.length → ∃ d G2, ds[i]? = some d ∧ EO K B G0 G2 H' σ r ∧ Same G1 G2 ∧ Dp K G2 x d ∧ ∀ a o, H a = some o → H' a = some o
def rW : Rl (List PyData) It := fun K _ _ G _ _ j ds => Wk K j G ds
structure Id (X : Cx) (W : WX) (C : Er → Addr) (tg iter : Expr) (t : En → Out (List PyData)) : Prop where
  ex : ∃ wi, PI X tg iter wi ∧ GM.J X W C rW wi t
/-- a target -/
structure Gd (X : Cx) (tg : Expr) (gt : PyData → En → Option En) (ss : List Nat) : Prop where
  ex : ∃ g, PG X tg g ∧ ∀ (B G0 G H : Hp) (σ : St) (r r' : En) (v : V) (d : PyData) (Q : St → Hp → Prop), EO X.K B G0 G H σ r → Dp X.K G v d → gt d r = some r' → (∀ σ', EO X.K B G0 G H σ' r' → (∀ vs, (∀ i ∈ ss, i ∈ vs) → wipe σ' vs = wipe σ vs) → Q σ' H) → g v σ H Q
theorem wipe_set (σ : St) (i : Nat) (x : Option V) : ∀ vs : List Nat, wipe (σ.set i x) vs = if i ∈ vs then wipe σ vs else (wipe σ vs).set i x
  | [] => by simp [wipe]
  | v :: vs => by
    rw [wipe, wipe, wipe_set σ i x vs]
    by_cases h : i ∈ vs
    · rw [if_pos h, if_pos (List.mem_cons_of_mem _ h)]
    · rw [if_neg h]
      by_cases hv : i = v
      · subst hv
        rw [if_pos List.mem_cons_self, List.set_set]
      · rw [if_neg (by simp [hv, h]), List.set_comm _ _ hv]
@[simp] def asL : PyData → Option (List PyData)
  | .list l => some l
  | _ => none
@[simp] def asT : PyData → Option (List PyData)
  | .tuple l => some l
  | _ => none
@[simp] def iLst (t : En → Out PyData) : En → Out (List PyData) := op1 asL t
@[simp] def iTup (t : En → Out PyData) : En → Out (List PyData) := op1 asT t
theorem wk_list {K : PySem.W.Frag} {G : Hp} {a : Addr} {vs : List V} {ds : List PyData} (h : SqL K G a vs) (hd : DpAll K G vs ds) : Wk K (Itl K a) G ds where
  go := fun i H s hi => by
    have hv : i < vs.length := by rw [dpAll_len hd]; exact hi
    exact ⟨vs, vs[i], s.seq h, List.getElem?_eq_getElem hv⟩
  stop := fun i H s hi => ⟨vs, s.seq h, by rw [dpAll_len hd]; exact hi⟩
  yld := fun i x B G0 G1 H H' σ r eo s y hi => by
    obtain ⟨rfl, hx⟩ := y
    obtain ⟨v, hv, dv⟩ := dpAll_get hd i _ (List.getElem?_eq_getElem hi)
    have hx' := hx vs ((s.trans eo.gh).seq h)
    rw [hv] at hx'
    cases hx'
    exact ⟨_, G1, List.getElem?_eq_getElem hi, eo, Same.refl G1, dp_same s _ _ dv, fun _ _ q => q⟩
theorem wk_tup {K : PySem.W.Frag} {G : Hp} {a : Addr} {vs : List V} {ds : List PyData} (h : SqT K G a vs) (hd : DpAll K G vs ds) : Wk K (Itt K a) G ds where
  go := fun i H s hi => by
    have hv : i < vs.length := by rw [dpAll_len hd]; exact hi
    exact ⟨vs, vs[i], same_t s h, List.getElem?_eq_getElem hv⟩
  stop := fun i H s hi => ⟨vs, same_t s h, by rw [dpAll_len hd]; exact hi⟩
  yld := fun i x B G0 G1 H H' σ r eo s y hi => by
    obtain ⟨rfl, hx⟩ := y
    obtain ⟨v, hv, dv⟩ := dpAll_get hd i _ (List.getElem?_eq_getElem hi)
    have hx' := hx vs (same_t (s.trans eo.gh) h)
    rw [hv] at hx'
    cases hx'
    exact ⟨_, G1, List.getElem?_eq_getElem hi, eo, Same.refl G1, dp_same s _ _ dv, fun _ _ q => q⟩
theorem wk_rev {K : PySem.W.Frag} {G : Hp} {a : Addr} {vs : List V} {ds : List PyData} (h : SqL K G a vs) (hd : DpAll K G vs ds) : Wk K (Itv K a vs.length) G ds.reverse where
  go := fun i H s hi => by
    rw [List.length_reverse, ← dpAll_len hd] at hi
    exact ⟨hi, vs, vs[vs.length - 1 - i], s.seq h, List.getElem?_eq_getElem (by omega)⟩
  stop := fun i H s hi => by
    rw [List.length_reverse, ← dpAll_len hd] at hi
    exact hi
  yld := fun i x B G0 G1 H H' σ r eo s y hi => by
    obtain ⟨rfl, hx⟩ := y
    have hi' : i < ds.length := by rw [List.length_reverse] at hi; exact hi
    have e : ds.reverse[i]? = ds[ds.length - 1 - i]? := List.getElem?_reverse hi'
    have hk : ds.length - 1 - i < ds.length := by omega
    obtain ⟨v, hv, dv⟩ := dpAll_get hd (ds.length - 1 - i) _ (List.getElem?_eq_getElem hk)
    have hx' := hx vs ((s.trans eo.gh).seq h)
    rw [dpAll_len hd, hv] at hx'
    cases hx'
    exact ⟨_, G1, e.trans (List.getElem?_eq_getElem hk), eo, Same.refl G1, dp_same s _ _ dv, fun _ _ q => q⟩
def rng (n : Nat) : List PyData := (List.range n).map fun (i : Nat) => .int (Int.ofNat i)
theorem wk_rng {K : PySem.W.Frag} {G : Hp} (n : Nat) : Wk K (Itr 0 n) G (rng n) where
  go := fun i H s hi => by
    simp [rng] at hi
    exact hi
  stop := fun i H s hi => by
    simp [rng] at hi
    exact hi
  yld := fun i x B G0 G1 H H' σ r eo s y hi => by
    obtain ⟨rfl, rfl⟩ := y
    have hi' : i < n := by simpa [rng] using hi
    refine ⟨.int (Int.ofNat i), G1, ?_, eo, Same.refl G1, ?_, fun _ _ q => q⟩
    · simp [rng, hi']
    · rw [Int.zero_add]
      exact .int _
section
variable {X : Cx} {W : WX} {C : Er → Addr} {pos : Pos} {e a b tg : Expr} {es : List Expr} {sts : List Stmt} {g : En → Out Fl}
theorem Post.unOp1 {α γ δ β : Type} {R : Rl α β} {R2 : Rl γ δ} {K : PySem.W.Frag} {B G0 G : Hp} {σ : St} : True := trivial
theorem i_list {t : En → Out PyData} (ha : Ed X W C a t) : Id X W C tg a (iLst t) := by
  obtain ⟨ea, a1, a2⟩ := ha.ex
  refine ⟨_, pi_list a1, ?_⟩
  refine j_op1 (R := rW) (rop := fun x H R => ∃ a, x = .ref a ∧ (∃ xs, SqL X.K H a xs) ∧ R (Itl X.K a) H) a2 fun B G0 G H σ r x d s Q eo hx hf q => ?_
  cases hx with
  | lst h1 h2 =>
    cases hf
    exact ⟨_, rfl, ⟨_, eo.gh.seq h1⟩, q _ G H eo (Same.refl G) (wk_list h1 h2)⟩
  | _ => cases hf
theorem i_tup {t : En → Out PyData} (ha : Ed X W C a t) : Id X W C tg a (iTup t) := by
  obtain ⟨ea, a1, a2⟩ := ha.ex
  refine ⟨_, pi_tup a1, ?_⟩
  refine j_op1 (R := rW) (rop := fun x H R => ∃ a, x = .ref a ∧ (∃ xs, SqT X.K H a xs) ∧ R (Itt X.K a) H) a2 fun B G0 G H σ r x d s Q eo hx hf q => ?_
  cases hx with
  | tup h1 h2 =>
    cases hf
    exact ⟨_, rfl, ⟨_, same_t eo.gh h1⟩, q _ G H eo (Same.refl G) (wk_tup h1 h2)⟩
  | _ => cases hf
@[simp] def iRevD (t : En → Out PyData) : En → Out (List PyData) := op1 (fun d => (asL d).map List.reverse) t
theorem i_rev {p : Pos} {t : En → Out PyData} (hm : X.mg "reversed" = none) (ha : Ed X W C a t) (hg : Gl X "reversed" := by rfl) (hs1 : starEach (a :: []) X.env = (false, eval a X.env) :: starEach [] X.env := by rfl) (hs : starEach [a] X.env = [(false, eval a X.env)] := by rfl) : Id X W C tg (.Call (.Name "reversed" p) [a] [] pos) (iRevD t) := by
  obtain ⟨ea, a1, a2⟩ := ha.ex
  refine ⟨_, pi_reversed hg hm (pa_cons a1 pa_nil hs1) hs, ?_⟩
  refine j_op1 (R := rW) (rop := fun x H R => ∃ (a : Addr) (xs : List V), [x] = [.ref a] ∧ SqL X.K H a xs ∧ R (Itv X.K a xs.length) H) a2 fun B G0 G H σ r x d s Q eo hx hf q => ?_
  cases hx with
  | lst h1 h2 =>
    cases hf
    exact ⟨_, _, rfl, eo.gh.seq h1, q _ G H eo (Same.refl G) (wk_rev h1 h2)⟩
  | _ => cases hf
@[simp] def rngD : PyData → Option (List PyData)
  | .int j => if -(2 ^ 62) ≤ j ∧ j < 2 ^ 62 then some (rng j.toNat) else none
  | _ => none
@[simp] def iRngD (t : En → Out PyData) : En → Out (List PyData) := op1 rngD t
theorem i_range {p : Pos} {t : En → Out PyData} (hm : X.mg "range" = none) (ha : Ed X W C a t) (hg : Gl X "range" := by rfl) (hs1 : starEach (a :: []) X.env = (false, eval a X.env) :: starEach [] X.env := by rfl) (hs : starEach [a] X.env = [(false, eval a X.env)] := by rfl) : Id X W C tg (.Call (.Name "range" p) [a] [] pos) (iRngD t) := by
  obtain ⟨ea, a1, a2⟩ := ha.ex
  refine ⟨_, pi_range1 hg hm (pa_cons a1 pa_nil hs1) hs, ?_⟩
  refine j_op1 (R := rW) (rop := fun x H R => ∃ j : Int, [x] = [.int j] ∧ -(2 ^ 62) ≤ j ∧ j < 2 ^ 62 ∧ R (L2.Itr 0 j.toNat) H) a2 fun B G0 G H σ r x d s Q eo hx hf q => ?_
  cases hx with
  | int j =>
    simp only [rngD] at hf
    split at hf
    · rename_i hc
      cases hf
      exact ⟨j, rfl, hc.1, hc.2, q _ G H eo (Same.refl G) (wk_rng _)⟩
    · cases hf
  | _ => cases hf
@[simp] def gtN (i : Nat) : PyData → En → Option En := fun d r => some (r.set i (.dat d))
theorem g_name (i : Nat) {x : Str} (hnd : X.N.Nodup) (hN : X.N[i]? = some x := by rfl) (hx : Loc X.env.scope x := by first | exact Or.inl rfl | exact Or.inr rfl) (hf : X.fn x = true ∨ X.env.scope.names.lookup x = some .local := by first | exact .inl rfl | exact .inr rfl | assumption) : Gd X (.Name x pos) (gtN i) [i] :=
  ⟨_, pg_name (i := i) hnd hN hx hf, fun B G0 G H σ r r' v d Q eo hv hr q => by
    cases hr
    exact q _ (eo.set i (s := .dat d) hv) fun vs h => by rw [wipe_set, if_pos (h i List.mem_cons_self)]⟩
/-- (x, y) = a pair -/
@[simp] def gt2 (i j : Nat) : PyData → En → Option En := fun d r => match d with
  | .tuple [x, y] => some ((r.set i (.dat x)).set j (.dat y))
  | _ => none
theorem g_two (i j : Nat) {x y : Str} {p1 p2 : Pos} {k : Nat} (hc : X.calm = true) (hnd : X.N.Nodup) (hN : X.N[i]? = some x := by rfl) (hx : Loc X.env.scope x := by first | exact Or.inl rfl | exact Or.inr rfl) (hf : X.fn x = true ∨ X.env.scope.names.lookup x = some .local := by first | exact .inl rfl | exact .inr rfl | assumption)
    (hN2 : X.N[j]? = some y := by rfl) (hx2 : Loc X.env.scope y := by first | exact Or.inl rfl | exact Or.inr rfl) (hf2 : X.fn y = true ∨ X.env.scope.names.lookup y = some .local := by first | exact .inl rfl | exact .inr rfl | assumption)
    (hs : (assignEach [.Name x p1, .Name y p2] X.env).map (·.2) = assign (.Name x p1) X.env :: (assignEach [.Name y p2] X.env).map (·.2) := by rfl) (hs2 : (assignEach [.Name y p2] X.env).map (·.2) = assign (.Name y p2) X.env :: (assignEach [] X.env).map (·.2) := by rfl)
    (hn : (assignEach [.Name x p1, .Name y p2] X.env).length = 2 := by rfl) (hst : (assignEach [.Name x p1, .Name y p2] X.env).findIdx? (·.1) = none := by rfl) : Gd X (.Tuple [.Name x p1, .Name y p2] k pos) (gt2 i j) [i, j] :=
  ⟨_, pg_tup hc (pgs_cons (pg_name (i := i) hnd hN hx hf) (pgs_cons (pg_name (i := j) hnd hN2 hx2 hf2) pgs_nil hs2) hs) hn hst, fun B G0 G H σ r r' v d Q eo hv hr q => by
    unfold gt2 at hr
    cases hv with
    | tup h1 h2 =>
      split at hr
      · rename_i heq
        cases heq
        cases hr
        cases h2 with
        | cons r1 t1 =>
          cases t1 with
          | cons r2 t2 =>
            cases t2
            exact ⟨_, _, rfl, same_t eo.gh h1, rfl, _, _, rfl, _, _, rfl, rfl, q _ ((eo.set i (s := .dat _) r1).set j (s := .dat _) r2) fun vs h => by rw [wipe_set, if_pos (h j (by simp)), wipe_set, if_pos (h i (by simp))]⟩
      · cases hr
    | _ => cases hr⟩

/-! ### for -/
@[simp] def forL (gt : PyData → En → Option En) (g : En → Out Fl) : List PyData → En → Out Fl
  | [], r => .ok .nx r
  | d :: ds, r => match gt d r with
    | none => .bot
    | some r => match g r with
      | .ok .nx r => forL gt g ds r
      | .ok .ct r => forL gt g ds r
      | .ok .bk r => .ok .nx r
      | o => o
@[simp] def gFor (t : En → Out (List PyData)) (gt : PyData → En → Option En) (g : En → Out Fl) : En → Out Fl := fun r => (t r).bind fun ds r => forL gt g ds r
theorem s_for {it : Expr} {t : En → Out (List PyData)} {gt : PyData → En → Option En} {ss : List Nat} (hp : PassesOwn (model X.prog X.w) X.A X.env X.xe) (hcm : X.calm = true) (hi : Id X W C tg it t) (hg : Gd X tg gt ss) (hb : Bd X W C sts g)
    (hs : ∀ x, foldedSetIterable it X.env x = pure x := by intro _; rfl) : Sd X W C (.For tg it sts [] pos) (gFor t gt g) := by
  obtain ⟨wi, i1, i2⟩ := hi.ex
  obtain ⟨gg, g1, g2⟩ := hg.ex
  obtain ⟨tb, b1, b2⟩ := hb.ex
  refine ⟨_, ps_for hp hcm i1 g1 b1 hs, fun B G0 G H σ r D eo p => i2 B G0 G H σ r _ eo ?_⟩
  refine PostF.bind (R := rW) p fun ds r1 J G1 H1 e1 s1 hw q => ?_
  refine ⟨fun i m σ' H' => m = ds.length - i ∧ ∃ G' r', EO X.K B G0 G' H' σ' r' ∧ Same G1 G' ∧ PostF X.K W C B G0 G' D (forL gt g (ds.drop i) r'), ⟨_, rfl, G1, r1, e1, Same.refl G1, q⟩, ?_⟩
  rintro i m σ' H' ⟨rfl, G', r', e', s', q'⟩
  have sg := s'.trans e'.gh
  by_cases hi : i < ds.length
  · refine .inr ⟨hw.go i H' sg hi, fun σ2 H2 => ∃ G' r', EO X.K B G0 G' H2 σ2 r' ∧ Same G1 G' ∧ PostF X.K W C B G0 G' D (forL gt g (ds.drop (i + 1)) r'), fun σ2 H2 h2 => ⟨ds.length - (i + 1), by omega, rfl, h2⟩, fun x H2 hy => ?_⟩
    obtain ⟨d, G2, hd, e2, s2, hx, _⟩ := hw.yld i x B G0 G' H' H2 σ' r' e' s' hy hi
    have hdr : ds.drop i = d :: ds.drop (i + 1) := by
      rw [List.getElem?_eq_getElem hi] at hd
      cases hd
      exact List.drop_eq_getElem_cons hi
    rw [hdr, forL] at q'
    cases hgt : gt d r' with
    | none => rw [hgt] at q'; exact q'.elim
    | some r2 =>
      rw [hgt] at q'
      simp only at q'
      refine g2 B G0 G2 H2 σ' r' r2 x d _ e2 hx hgt fun σ3 e3 _ => b2 B G0 G2 H2 σ3 r2 _ e3 ?_
      cases hgr : g r2 with
      | bot => rw [hgr] at q'; exact q'
      | err c r3 => rw [hgr] at q'; exact fun σ4 G4 H4 e4 s4 => q' σ4 G4 H4 e4 (s2.trans s4)
      | ok f r3 =>
        rw [hgr] at q'
        cases f with
        | nx => exact fun σ4 G4 H4 e4 s4 => ⟨G4, r3, e4, (s'.trans s2).trans s4, PostF.up q' (s2.trans s4)⟩
        | ct => exact fun σ4 G4 H4 e4 s4 => ⟨G4, r3, e4, (s'.trans s2).trans s4, PostF.up q' (s2.trans s4)⟩
        | bk => exact fun σ4 G4 H4 e4 s4 => q' σ4 G4 H4 e4 (s2.trans s4)
        | rt s => exact ⟨rfl, fun v σ4 G4 H4 e4 s4 => q'.2 v σ4 G4 H4 e4 (s2.trans s4)⟩
  · have hle : ds.length ≤ i := by omega
    refine .inl ⟨hw.stop i H' sg hle, ?_⟩
    rw [List.drop_eq_nil_of_le hle] at q'
    exact q' σ' G' H' e' (Same.refl G')

theorem forL_ok {gt : PyData → En → Option En} {g : En → Out Fl} (I : List PyData → En → Prop) (step : ∀ d ds r, I (d :: ds) r → ∃ r1 r2, gt d r = some r1 ∧ (g r1 = .ok .nx r2 ∨ g r1 = .ok .ct r2) ∧ I ds r2) : ∀ ds r, I ds r → ∃ r', forL gt g ds r = .ok .nx r' ∧ I [] r'
  | [], r, h => ⟨r, rfl, h⟩
  | d :: ds, r, h => by
    obtain ⟨r1, r2, h1, h2, h3⟩ := step d ds r h
    obtain ⟨r', h4, h5⟩ := forL_ok I step ds r2 h3
    refine ⟨r', ?_, h5⟩
    rw [forL, h1]
    rcases h2 with h2 | h2
    · simp only [h2]
      exact h4
    · simp only [h2]
      exact h4
theorem forL_okN {i : Nat} {g : En → Out Fl} (I : List PyData → En → Prop) (step : ∀ d ds r, I (d :: ds) r → ∃ r2, (g (r.set i (.dat d)) = .ok .nx r2 ∨ g (r.set i (.dat d)) = .ok .ct r2) ∧ I ds r2) (ds : List PyData) (r : En) (h : I ds r) : ∃ r', forL (gtN i) g ds r = .ok .nx r' ∧ I [] r' :=
  forL_ok I (fun d ds r h => let ⟨r2, h1, h2⟩ := step d ds r h; ⟨_, r2, rfl, h1, h2⟩) ds r h
theorem gWhile_ok {c : En → Out Bool} {g : En → Out Fl} {Q : En → Prop} (I : Nat → En → Prop) (step : ∀ n r, I n r → (∃ r1, c r = .ok false r1 ∧ Q r1) ∨ ∃ r1 r2 m, c r = .ok true r1 ∧ (g r1 = .ok .nx r2 ∨ g r1 = .ok .ct r2) ∧ m < n ∧ I m r2) : ∀ n r, I n r → ∃ r', gWhile c g r = .ok .nx r' ∧ Q r' := by
  intro n
  induction n using Nat.strongRecOn with
  | _ n ih =>
    intro r h
    rcases step n r h with ⟨r1, h1, h2⟩ | ⟨r1, r2, m, h1, h2, h3, h4⟩
    · exact ⟨r1, by rw [gWhile_unfold, h1]; rfl, h2⟩
    · obtain ⟨r', h5, h6⟩ := ih m h3 r2 h4
      refine ⟨r', ?_, h6⟩
      rw [gWhile_unfold, h1]
      rcases h2 with h2 | h2
      · simp only [bind_ok, if_pos, h2]
        exact h5
      · simp only [bind_ok, if_pos, h2]
        exact h5
section
variable {α : Type} (a b c d : α) (l : List α)
@[simp] theorem atI_c0 : atI (a :: l) 0 = some a := atI_nat (j := 0) rfl
@[simp] theorem atI_c1 : atI (a :: b :: l) 1 = some b := atI_nat (j := 1) rfl
@[simp] theorem atI_c2 : atI (a :: b :: c :: l) 2 = some c := atI_nat (j := 2) rfl
@[simp] theorem atI_c3 : atI (a :: b :: c :: d :: l) 3 = some d := atI_nat (j := 3) rfl
end
/-- a pile, its top first -/
def stk {α : Type} (f : α → PyData) (s : List α) : List PyData := (s.map f).reverse
section
variable {α : Type} {f : α → PyData} {x : α} {s t : List α}
@[simp] theorem stk_nil : stk f [] = [] := rfl
@[simp] theorem stk_len : (stk f s).length = s.length := by simp [stk]
@[simp] theorem stk_last : (stk f (x :: s)).getLast? = some (f x) := by simp [stk]
@[simp] theorem stk_drop : (stk f (x :: s)).dropLast = stk f s := by simp [stk]
theorem stk_app : stk f s ++ [f x] = stk f (x :: s) := by simp [stk]
theorem stk_apps : stk f s ++ (t.map f).reverse = stk f (t ++ s) := by simp [stk]
theorem stk_one : [f x] = stk f [x] := rfl
@[simp] theorem stk_isEmpty : (stk f s).isEmpty = s.isEmpty := by cases s <;> simp [stk]
end
/-! ### a def's body -/
def runF (N n : Nat) (g : En → Out Fl) (ds : List PyData) : Res := match g (ds.map Sl.dat ++ List.replicate (N - n) .emp) with
  | .ok (.rt s) _ => .ok s
  | .ok .nx _ => .ok (.dat .none)
  | .err c _ => .err c
  | _ => .bot
theorem eo_start {K : PySem.W.Frag} {G H : Hp} {vs : List V} {ds : List PyData} {N : List Str} (sg : Same G H) (hd : DpAll K G vs ds) : EO K H G G H (L2.start N vs) (ds.map Sl.dat ++ List.replicate (N.length - vs.length) .emp) := by
  refine ⟨Same.refl H, sg, Same.refl G, fun p hp => .inl hp, by simp [L2.start, dpAll_len hd], fun i s hs => ?_, fun i j p mi mj => ?_⟩
  · unfold L2.start
    by_cases hi : i < ds.length
    · rw [List.getElem?_append_left (by simpa using hi)] at hs
      rw [List.getElem?_map] at hs
      rw [List.getElem?_eq_getElem hi] at hs
      cases hs
      obtain ⟨v, hv, dv⟩ := dpAll_get hd i _ (List.getElem?_eq_getElem hi)
      refine ⟨some v, ?_, v, rfl, dv⟩
      rw [List.getElem?_append_left (by rw [List.length_map, dpAll_len hd]; exact hi), List.getElem?_map, hv]
      rfl
    · rw [List.getElem?_append_right (by simpa using hi)] at hs
      rw [List.length_map] at hs
      rw [List.getElem?_append_right (by rw [List.length_map, dpAll_len hd]; omega)]
      rw [List.length_map, dpAll_len hd]
      obtain ⟨h1, h2⟩ := List.getElem?_eq_some_iff.mp hs
      rw [List.length_replicate] at h1
      refine ⟨none, by
        rw [List.getElem?_replicate, if_pos]
        rw [dpAll_len hd] at h1
        exact h1, ?_⟩
      rw [List.getElem_replicate] at h2
      subst h2
      trivial
  · obtain ⟨_, s, h2, h3⟩ := mi
    exfalso
    by_cases hi : i < (ds.map Sl.dat).length
    · rw [List.getElem?_append_left hi, List.getElem?_map] at h2
      cases hd2 : ds[i]? with
      | none => rw [hd2] at h2; cases h2
      | some d => rw [hd2] at h2; cases h2; cases h3
    · rw [List.getElem?_append_right (by omega)] at h2
      obtain ⟨k1, k2⟩ := List.getElem?_eq_some_iff.mp h2
      rw [List.getElem_replicate] at k2
      subst k2
      cases h3
/-- the contexts of a body -/
abbrev WF (E : XK) : WX := fun cls d _ H => E cls d H
theorem fn_ok {P : Program} {w : World} {K : PySem.W.Frag} {mg : Str → Option Value} {base : Heap} {C : Er → Addr} {x : Str} {st : Stmt} {f : Addr} {fd : FuncData} {N ps : List Str} {k : Nat} {g : En → Out Fl} (F : L2.Fun K x x st f fd) (S : FnScope N ps (defScope st))
    (hbody : ∀ (cdv : Value) (A : Around) (outer : List Env) (s : Shared) (H : Hp) (E : XK), Room k (A.deeper (PyProof.Rows.envOfC x (defScope st) s.heap.objs.size f cdv)) →
      Bd (cxOf (L2.CX P w) P w K mg base N x (defScope st) f cdv A outer s H E) (WF E) C (defBody st) g) : FnOk P w K mg base (L2.CX P w) (k + 1) f fd ps (spD K C ps.length (runF N.length ps.length g)) := by
  refine F.okX S (fun vs H Q E h => h.1) fun cdv A outer s H vs Q E hr h => ?_
  obtain ⟨hl, G, ds, sg, hd, p⟩ := h
  obtain ⟨ts, b1, b2⟩ := (hbody cdv A outer s H E hr).ex
  refine ⟨ts, b1, b2 H G G H _ _ _ (eo_start (N := N) sg hd) ?_⟩
  rw [hl]
  unfold runF at p
  have fin : ∀ {sl : Sl} {v : V} {G' H' : Hp} {σ : St} {r : En}, EO K H G G' H' σ r → Same G G' → SlOk K H G' H' (some v) sl → (∀ v G' H', Same H H' → Same G G' → Same G' H' → (∀ p, G' p ≠ none → G p ≠ none ∨ H p = none) → SlOk K H G' H' (some v) sl → Q v H') → Q v H' :=
    fun e s hs q => q _ _ _ e.bh s e.gh e.grow hs
  cases hg : g (ds.map Sl.dat ++ List.replicate (N.length - ps.length) .emp) with
  | bot => rw [hg] at p; exact p
  | err c r => rw [hg] at p; exact fun σ G' H' e s => p H' e.bh
  | ok fl r =>
    rw [hg] at p
    cases fl with
    | nx => exact fun σ G' H' e s => fin e s (sl := .dat .none) ⟨.non, rfl, .non⟩ p
    | rt sl => exact ⟨rfl, fun v σ G' H' e s hs => fin e s hs p⟩
    | bk => exact p.elim
    | ct => exact p.elim
theorem fn_mk {P : Program} {w : World} {K : PySem.W.Frag} {mg : Str → Option Value} {base : Heap} {C : Er → Addr} {k : Nat} {x : Str} {f : Addr} {fd : FuncData} {ps : List Str} {F : List PyData → Res} (gm : mg x = some (.ref f)) (kp : PySem.W.keepIn K (.ref f) = true) (hb : Binds K fd ps [])
    (h : FnOk P w K mg base (L2.CX P w) k f fd ps (spD K C ps.length F)) : Fn P w K mg base C k x ps.length F := ⟨f, fd, ps, h, gm, kp, hb⟩
theorem law_sp {K : PySem.W.Frag} {C : Er → Addr} {H : Hp} {a : Addr} {ns : List Int} {F : List PyData → Res} (hS : SqL K H a (ns.map V.int)) (h : F [.list (ns.map PyData.int)] = .ok (.dat (.bool true))) : spD K C 1 F [.ref a] H (fun v _ => v = .bl true) fun _ _ _ => False := by
  refine ⟨rfl, H, [.list (ns.map PyData.int)], Same.refl H, .cons (.lst hS (dpAll_ints ns)) .nil, ?_⟩
  rw [h]
  intro v G' H' _ _ _ _ hs
  obtain ⟨x, e, d⟩ := hs
  cases e
  cases d
  rfl
theorem no_cx {P : Program} {w : World} {H : Hp} {s s' : Shared} {e : Value} (z : L2.CX P w [] H s (fun _ _ _ => False) e s') : False := by
  obtain ⟨_, _, _, _, _, _, _, _, _, _, _, _, h⟩ := z
  exact h
end
end GM

namespace GM
open PySem PySem.Spec L2
/-- the built-in names that the module leaves alone -/
structure Bi (mg : Str → Option Value) : Prop where
  len : mg "len" = none
  isinstance : mg "isinstance" = none
  reversed : mg "reversed" = none
  range : mg "range" = none
  zip : mg "zip" = none
  bool : mg "bool" = none
  int : mg "int" = none
  str : mg "str" = none
  tuple : mg "tuple" = none
  list : mg "list" = none
  dict : mg "dict" = none
  set : mg "set" = none
theorem boot_bool : bootBuiltins "bool" = some (.type "bool") := by decide +kernel
theorem boot_int : bootBuiltins "int" = some (.type "int") := by decide +kernel
theorem boot_str : bootBuiltins "str" = some (.type "str") := by decide +kernel
theorem boot_tuple : bootBuiltins "tuple" = some (.type "tuple") := by decide +kernel
theorem boot_list : bootBuiltins "list" = some (.type "list") := by decide +kernel
theorem boot_dict : bootBuiltins "dict" = some (.type "dict") := by decide +kernel
def isiC (T : String) : Bool := (["NoneType", "bool", "int", "str", "list", "tuple", "dict"] : List String).all fun n => decide (kitB n T = some (isiT T n))
theorem isiOk_of {T : String} (h : isiC T = true) : IsiOk T := fun K n hn => kit_ty (of_decide_eq_true (List.all_eq_true.mp h n hn))
theorem isi_bool : IsiOk "bool" := isiOk_of (by decide +kernel)
theorem isi_int : IsiOk "int" := isiOk_of (by decide +kernel)
theorem isi_str : IsiOk "str" := isiOk_of (by decide +kernel)
theorem isi_tuple : IsiOk "tuple" := isiOk_of (by decide +kernel)
theorem isi_list : IsiOk "list" := isiOk_of (by decide +kernel)
theorem isi_dict : IsiOk "dict" := isiOk_of (by decide +kernel)
end GM

namespace GM
open PySem PySem.Spec L2
/-! ### the reading that a meaning itself gives -/
def canon {α β : Type} (R : Rl α β) (K : PySem.W.Frag) (W : WX) (C : Er → Addr) (t : En → Out α) : St → Hp → (β → Hp → Prop) → Prop := fun σ H Q => ∃ (B G0 G : Hp) (r : En), EO K B G0 G H σ r ∧ Post R K W C B G0 G σ Q (t r)
section
variable {X : Cx} {W : WX} {C : Er → Addr} {e : Expr}
theorem Ed.canon {t : En → Out PyData} (h : Ed X W C e t) : PE X e (canon rD X.K W C t) := by
  obtain ⟨te, h1, h2⟩ := h.ex
  refine ⟨fun pins s σ H Q I hw => ?_⟩
  obtain ⟨B, G0, G, r, eo, p⟩ := hw
  exact h1.run pins s σ H Q I (h2 B G0 G H σ r Q eo p)
/-- the tests of a comprehension -/
structure Ts (X : Cx) (W : WX) (C : Er → Addr) (ifs : List Expr) (t : En → Out Bool) : Prop where
  ex : ∃ te, PTs X ifs te ∧ J X W C (GM.rI Bool) te t
def tYesD : En → Out Bool := fun r => .ok true r
theorem ts_nil : Ts X W C [] tYesD := ⟨_, pts_nil, fun B G0 G H σ r Q eo p => p true G H eo (Same.refl G) rfl⟩
theorem ts_one {t : En → Out Bool} (h : Td X W C e t) : Ts X W C [e] t := by
  obtain ⟨te, h1, h2⟩ := h.ex
  exact ⟨_, pts_one h1, h2⟩
theorem Ts.canon {ifs : List Expr} {t : En → Out Bool} (h : Ts X W C ifs t) : PTs X ifs (canon (GM.rI Bool) X.K W C t) := by
  obtain ⟨te, h1, h2⟩ := h.ex
  refine ⟨fun pins s σ H Q I hw => ?_⟩
  obtain ⟨B, G0, G, r, eo, p⟩ := hw
  exact h1.run pins s σ H Q I (h2 B G0 G H σ r Q eo p)
def canonG (K : PySem.W.Frag) (gt : PyData → En → Option En) (ss : List Nat) : TG := fun v σ H Q => ∃ (B G0 G : Hp) (r r' : En) (d : PyData), EO K B G0 G H σ r ∧ Dp K G v d ∧ gt d r = some r' ∧ ∀ σ', EO K B G0 G H σ' r' → (∀ vs, (∀ i ∈ ss, i ∈ vs) → wipe σ' vs = wipe σ vs) → Q σ' H
theorem Gd.canon {gt : PyData → En → Option En} {ss : List Nat} (h : Gd X e gt ss) : PG X e (canonG X.K gt ss) := by
  obtain ⟨g, h1, h2⟩ := h.ex
  refine ⟨fun pins s σ H v u Q I rv hw => ?_⟩
  obtain ⟨B, G0, G, r, r', d, eo, hd, hg, q⟩ := hw
  exact h1.run pins s σ H v u Q I rv (h2 B G0 G H σ r r' v d Q eo hd hg q)
end
/-! ### slots forgotten -/
@[simp] theorem mine_emp : Sl.emp.mine = false := rfl
@[simp] theorem mine_dat (d : PyData) : (Sl.dat d).mine = false := rfl
@[simp] theorem mine_own (l : List PyData) : (Sl.own l).mine = true := rfl
@[simp] theorem mine_dic (l : List (Key × PyData)) : (Sl.dic l).mine = true := rfl
def wipeE (r : En) : List Nat → En
  | [] => r
  | v :: vs => (wipeE r vs).set v .emp
section
variable {K : PySem.W.Frag} {B G0 G G' H H' : Hp} {σ : St} {r : En}
theorem mineAt_forget {i j : Nat} {p : Addr} (m : MineAt (σ.set i none) (r.set i .emp) j p) : MineAt σ r j p := by
  obtain ⟨h1, s, h2, h3⟩ := m
  rcases get_set_cases h2 with ⟨_, w2, _⟩ | ⟨w1, w2⟩
  · rw [w2] at h3
    cases h3
  · rcases get_set_cases h1 with ⟨q1, _, _⟩ | ⟨_, q2⟩
    · exact absurd q1 w1
    · exact ⟨q2, s, w2, h3⟩
theorem EO.forget (e : EO K B G0 G H σ r) (i : Nat) : EO K B G0 G H (σ.set i none) (r.set i .emp) := by
  refine ⟨e.bh, e.gh, e.gg, e.grow, by simp [e.len], fun j t ht => ?_, fun j k p mj mk => e.dist j k p (mineAt_forget mj) (mineAt_forget mk)⟩
  rcases get_set_cases ht with ⟨q1, q2, q3⟩ | ⟨q1, q2⟩
  · subst q1 q2
    exact ⟨none, List.getElem?_set_self (by rw [e.len]; exact q3), trivial⟩
  · obtain ⟨w, h1, h2⟩ := e.slot j t q2
    exact ⟨w, by rw [List.getElem?_set_ne (Ne.symm q1)]; exact h1, h2⟩
theorem EO.wipe (e : EO K B G0 G H σ r) : ∀ vs : List Nat, EO K B G0 G H (L2.wipe σ vs) (wipeE r vs)
  | [] => e
  | v :: vs => (e.wipe vs).forget v
theorem wipe_get (σ : St) {i : Nat} : ∀ {vs : List Nat}, i ∉ vs → (L2.wipe σ vs)[i]? = σ[i]?
  | [], _ => rfl
  | v :: vs, h => by
    rw [L2.wipe, List.getElem?_set_ne (fun z => h (by simp [z])), wipe_get σ fun z => h (List.mem_cons_of_mem _ z)]
theorem wipeE_get (r : En) {i : Nat} : ∀ {vs : List Nat}, i ∉ vs → (wipeE r vs)[i]? = r[i]?
  | [], _ => rfl
  | v :: vs, h => by
    rw [wipeE, List.getElem?_set_ne (fun z => h (by simp [z])), wipeE_get r fun z => h (List.mem_cons_of_mem _ z)]
/-- what was forgotten (no list of one's own among it) is known again -/
theorem EO.unwipe {σ2 : St} {r2 : En} {vs : List Nat} (e : EO K B G0 G H σ r) (e2 : EO K B G0 G' H' σ2 r2) (sg : Same G G') (hσ : L2.wipe σ2 vs = L2.wipe σ vs) (hr : wipeE r2 vs = wipeE r vs) (hm : ∀ v ∈ vs, ∀ s, r[v]? = some s → s.mine = false) : EO K B G0 G' H' σ r := by
  have e3 : EO K B G0 G' H' (L2.wipe σ vs) (wipeE r vs) := by
    have := e2.wipe vs
    rw [hσ, hr] at this
    exact this
  have mv : ∀ i p, MineAt σ r i p → MineAt (L2.wipe σ vs) (wipeE r vs) i p := fun i p ⟨h1, s, h2, h3⟩ => by
    have hi : i ∉ vs := fun z => by
      rw [hm i z s h2] at h3
      cases h3
    exact ⟨by rw [wipe_get σ hi]; exact h1, s, by rw [wipeE_get r hi]; exact h2, h3⟩
  refine ⟨e3.bh, e3.gh, e3.gg, e3.grow, e.len, fun i s hs => ?_, fun i j p mi mj => e3.dist i j p (mv i p mi) (mv j p mj)⟩
  by_cases hi : i ∈ vs
  · obtain ⟨v, h1, h2⟩ := e.slot i s hs
    have hmi := hm i hi s hs
    exact ⟨v, h1, h2.mono sg fun p _ z => by rw [hmi] at z; cases z⟩
  · obtain ⟨v, h1, h2⟩ := e3.slot i s (by rw [wipeE_get r hi]; exact hs)
    exact ⟨v, by rw [wipe_get σ hi] at h1; exact h1, h2⟩
/-- an object that is nobody's slot is kept by whatever is asked -/
theorem EO.guard (e : EO K B G0 G H σ r) {p : Addr} {o : HO} (hH : H p = some o) (hG : G p = none) (hB : B p = none) (n : ∀ i, ¬ MineAt σ r i p) : EO K (upd B p o) G0 G H σ r := by
  refine ⟨fun b x hb => ?_, e.gh, e.gg, fun q hq => ?_, e.len, fun i s hs => ?_, e.dist⟩
  · by_cases hbp : b = p
    · subst hbp
      rw [upd_same] at hb
      cases hb
      exact hH
    · rw [upd_ne hbp] at hb
      exact e.bh b x hb
  · have hqp : q ≠ p := fun z => hq (z ▸ hG)
    rw [upd_ne hqp]
    exact e.grow q hq
  · obtain ⟨v, h1, h2⟩ := e.slot i s hs
    refine ⟨v, h1, ?_⟩
    cases s with
    | emp => trivial
    | dat d => exact h2
    | own l =>
      obtain ⟨q, vs, e1, e2, e3, e4, e5⟩ := h2
      have hqp : q ≠ p := fun z => n i ⟨by rw [h1, e1, z], _, hs, rfl⟩
      exact ⟨q, vs, e1, e2, by rw [upd_ne hqp]; exact e3, e4, e5⟩
    | dic l =>
      obtain ⟨q, vs, e1, e2, e3, e4, e5⟩ := h2
      have hqp : q ≠ p := fun z => n i ⟨by rw [h1, e1, z], _, hs, rfl⟩
      exact ⟨q, vs, e1, e2, by rw [upd_ne hqp]; exact e3, e4, e5⟩
theorem EO.unguard {p : Addr} {o : HO} (e : EO K (upd B p o) G0 G H σ r) (hB : B p = none) (hG0 : G0 p = none) : EO K B G0 G H σ r ∧ H p = some o ∧ G p = none ∧ ∀ i, ¬ MineAt σ r i p := by
  have back : ∀ q, upd B p o q = none → B q = none := fun q h => by
    by_cases hqp : q = p
    · rw [hqp]; exact hB
    · rw [upd_ne hqp] at h
      exact h
  refine ⟨⟨fun b x hb => ?_, e.gh, e.gg, fun q hq => (e.grow q hq).imp id (back q), e.len, fun i s hs => ?_, e.dist⟩, e.bh _ _ upd_same, ?_, fun i m => ?_⟩
  · have hbp : b ≠ p := fun z => by rw [z, hB] at hb; cases hb
    exact e.bh b x (by rw [upd_ne hbp]; exact hb)
  · obtain ⟨v, h1, h2⟩ := e.slot i s hs
    refine ⟨v, h1, ?_⟩
    cases s with
    | emp => trivial
    | dat d => exact h2
    | own l =>
      obtain ⟨q, vs, e1, e2, e3, e4, e5⟩ := h2
      exact ⟨q, vs, e1, e2, back q e3, e4, e5⟩
    | dic l =>
      obtain ⟨q, vs, e1, e2, e3, e4, e5⟩ := h2
      exact ⟨q, vs, e1, e2, back q e3, e4, e5⟩
  · cases hq : G p with
    | none => rfl
    | some u =>
      rcases e.grow p (by rw [hq]; exact fun z => nomatch z) with h | h
      · exact absurd hG0 h
      · rw [upd_same] at h
        cases h
  · obtain ⟨_, h, _⟩ := e.mine m
    rw [upd_same] at h
    cases h
/-- that object is changed -/
theorem EO.other (e : EO K B G0 G H σ r) {p : Addr} {o : HO} (hG : G p = none) (hB : B p = none) (n : ∀ i, ¬ MineAt σ r i p) : EO K B G0 G (upd H p o) σ r :=
  e.step (same_mut e.bh hB) (Same.refl G) (same_mut e.gh hG) (fun q hq => .inl hq) fun i q m => upd_ne fun z => n i (z ▸ m)
end
/-! ### [elt for tg in iter if ..] -/
open Classical in
noncomputable def lcL (gt : PyData → En → Option En) (tt : En → Out Bool) (te : En → Out PyData) (vs : List Nat) (rw' : En) : List PyData → Option (List PyData)
  | [] => some []
  | d :: ds => match gt d rw' with
    | none => none
    | some r1 => match tt r1 with
      | .ok true r2 => (match te r2 with
        | .ok y r3 => if wipeE r3 vs = rw' then (lcL gt tt te vs rw' ds).map (y :: ·) else none
        | _ => none)
      | .ok false r2 => if wipeE r2 vs = rw' then lcL gt tt te vs rw' ds else none
      | _ => none
noncomputable def dLc (t : En → Out (List PyData)) (gt : PyData → En → Option En) (tt : En → Out Bool) (te : En → Out PyData) (vs : List Nat) : En → Out Sl := fun r => (t r).bind fun ds r =>
  if (vs.all fun v => !(r.getD v .emp).mine) = true ∧ ds.length ≤ sizeLine then (match lcL gt tt te vs (wipeE r vs) ds with
    | some ys => .ok (.own ys) r
    | none => .bot) else .bot
section
variable {X : Cx} {W : WX} {C : Er → Addr} {pos : Pos} {elt tg iter : Expr} {ifs : List Expr}
theorem lc_read {vs : List Nat} {ss : List Nat} {t : En → Out (List PyData)} {gt : PyData → En → Option En} {tt : En → Out Bool} {te : En → Out PyData} {wi : TI} (hsub : ∀ i ∈ ss, i ∈ vs) (i2 : GM.J X W C rW wi t) :
    J X W C rS (tLc wi (canonG X.K gt ss) (canon (GM.rI Bool) X.K (fun _ _ _ _ => False) C tt) (canon rD X.K (fun _ _ _ _ => False) C te) vs) (dLc t gt tt te vs) := by
  intro B G0 G H σ r Q eo p
  refine i2 B G0 G H σ r _ eo ?_
  refine Post.bind (R2 := rS) p fun ds r1 J G1 H1 e1 s1 hw q D hD => ?_
  have q0 : Post rS X.K W C B G0 G1 σ Q (if (vs.all fun v => !(r1.getD v .emp).mine) = true ∧ ds.length ≤ sizeLine then (match lcL gt tt te vs (wipeE r1 vs) ds with | some ys => .ok (.own ys) r1 | none => .bot) else .bot) := q
  by_cases hc : (vs.all fun v => !(r1.getD v .emp).mine) = true ∧ ds.length ≤ sizeLine
  · rw [if_pos hc] at q0
    have hmv : ∀ v ∈ vs, ∀ s, r1[v]? = some s → s.mine = false := fun v hv s hs => by
      have := List.all_eq_true.mp hc.1 v hv
      simp [List.getD, hs] at this
      exact this
    cases hl : lcL gt tt te vs (wipeE r1 vs) ds with
    | none => rw [hl] at q0; exact q0.elim
    | some total =>
      rw [hl] at q0
      have hD0 : B D = none := e1.bh.free hD
      have hDG : G1 D = none := e1.gh.free hD
      refine ⟨fun i m H' => m = ds.length - i ∧ ∃ G' acc accV rest, EO X.K B G0 G' H' σ r1 ∧ Same G1 G' ∧ H' D = some (.lst accV) ∧ DpAll X.K G' accV acc ∧ G' D = none ∧ (∀ i, ¬ MineAt σ r1 i D) ∧ acc.length ≤ i ∧ lcL gt tt te vs (wipeE r1 vs) (ds.drop i) = some rest ∧ acc ++ rest = total,
        ⟨_, rfl, G1, [], [], total, e1.newOwn hD, Same.refl G1, upd_same, .nil, hDG, fun i m => e1.notMine hD i m, Nat.le_refl _, hl, rfl⟩, ?_⟩
      rintro i m H' ⟨rfl, G', acc, accV, rest, e', sg', hDv, hda, hDG', hnm, hle, hrest, htot⟩
      by_cases hi : i < ds.length
      · refine .inr ⟨hw.go i H' (sg'.trans e'.gh) hi, fun H2 => ∃ G2 acc2 accV2 rest2, EO X.K B G0 G2 H2 σ r1 ∧ Same G1 G2 ∧ H2 D = some (.lst accV2) ∧ DpAll X.K G2 accV2 acc2 ∧ G2 D = none ∧ (∀ i, ¬ MineAt σ r1 i D) ∧ acc2.length ≤ i + 1 ∧ lcL gt tt te vs (wipeE r1 vs) (ds.drop (i + 1)) = some rest2 ∧ acc2 ++ rest2 = total,
          fun H2 h2 => ⟨ds.length - (i + 1), by omega, rfl, h2⟩, fun x H2 hy => ?_⟩
        have eg := e'.guard hDv hDG' hD0 hnm
        obtain ⟨d, G2, hd, e2, s2, hx, _⟩ := hw.yld i x _ G0 G' H' H2 σ r1 eg sg' hy hi
        have hdr : ds.drop i = d :: ds.drop (i + 1) := by
          rw [List.getElem?_eq_getElem hi] at hd
          cases hd
          exact List.drop_eq_getElem_cons hi
        rw [hdr, lcL] at hrest
        cases hgt : gt d (wipeE r1 vs) with
        | none => rw [hgt] at hrest; cases hrest
        | some r2 =>
          rw [hgt] at hrest
          simp only at hrest
          have hG00 : G0 D = none := by
            cases hq : G0 D with
            | none => rfl
            | some u =>
              have := e'.gg D u hq
              rw [hDG'] at this
              cases this
          have fin : ∀ {G3 H3 : Hp} {σ3 : St} {r3 : En}, EO X.K (upd B D (.lst accV)) G0 G3 H3 σ3 r3 → Same G2 G3 → L2.wipe σ3 vs = L2.wipe σ vs → wipeE r3 vs = wipeE r1 vs →
              EO X.K (upd B D (.lst accV)) G0 G3 H3 σ r1 := fun e3 sg3 hs3 hr3 => e2.unwipe e3 sg3 hs3 hr3 hmv
          refine ⟨_, G0, G2, wipeE r1 vs, r2, d, e2.wipe vs, hx, hgt, fun σ3 e3 hσ => ?_⟩
          have hσ3 : L2.wipe σ3 vs = L2.wipe σ vs := by
            rw [hσ vs hsub]
            have : ∀ us : List Nat, (∀ u ∈ us, u ∈ vs) → L2.wipe (L2.wipe σ us) vs = L2.wipe σ vs := by
              intro us
              induction us with
              | nil => intro _; rfl
              | cons u us ih =>
                intro hu
                rw [L2.wipe, wipe_set, if_pos (hu u List.mem_cons_self), ih fun w hw => hu w (List.mem_cons_of_mem _ hw)]
            exact this vs fun _ h => h
          refine ⟨hσ3, _, G0, G2, r2, e3, ?_⟩
          cases htt : tt r2 with
          | err c r3 => rw [htt] at hrest; cases hrest
          | bot => rw [htt] at hrest; cases hrest
          | ok b r3 =>
            rw [htt] at hrest
            intro b' G3 H3 e4 s4 hb
            cases hb
            cases b with
            | false =>
              refine iteF ?_
              simp only at hrest
              split at hrest
              · rename_i hwe
                have e5 := fin e4 s4 hσ3 hwe
                obtain ⟨e6, h6, h7, h8⟩ := e5.unguard hD0 hG00
                exact ⟨G3, acc, accV, rest, e6, (sg'.trans s2).trans s4, h6, dpAll_same (s2.trans s4) _ _ hda, h7, h8, by omega, hrest, htot⟩
              · cases hrest
            | true =>
              refine iteT ⟨_, G0, G3, r3, e4, ?_⟩
              simp only at hrest
              cases hte : te r3 with
              | err c r4 => rw [hte] at hrest; cases hrest
              | bot => rw [hte] at hrest; cases hrest
              | ok y r4 =>
                rw [hte] at hrest
                simp only at hrest
                intro yv G4 H4 e7 s7 hyv
                split at hrest
                · rename_i hwe
                  cases hrec : lcL gt tt te vs (wipeE r1 vs) (ds.drop (i + 1)) with
                  | none => rw [hrec] at hrest; cases hrest
                  | some rest2 =>
                    rw [hrec] at hrest
                    cases hrest
                    have e8 := fin e7 (s4.trans s7) hσ3 hwe
                    obtain ⟨e9, h6, h7, h8⟩ := e8.unguard hD0 hG00
                    have hda4 := dpAll_same ((s2.trans s4).trans s7) _ _ hda
                    refine ⟨accV, h6, ?_, G4, acc ++ [y], accV ++ [yv], rest2, e9.other h7 hD0 h8, ((sg'.trans s2).trans s4).trans s7, upd_same, dpAll_append hda4 (.cons hyv .nil), h7, h8, by simp; omega, rfl, by simpa using htot⟩
                    rw [dpAll_len hda4]
                    omega
                · cases hrest
      · have hle2 : ds.length ≤ i := by omega
        rw [List.drop_eq_nil_of_le hle2] at hrest
        cases hrest
        rw [List.append_nil] at htot
        subst htot
        refine .inl ⟨hw.stop i H' (sg'.trans e'.gh) hle2, ?_⟩
        exact q0 (.ref D) G' H' e' sg' ⟨D, accV, rfl, hDG', hD0, hDv, hda, hnm⟩
  · rw [if_neg hc] at q0
    exact q0.elim
theorem s_lc {scope : Scope} {own : List (Str × Nat)} {ss : List Nat} {t : En → Out (List PyData)} {gt : PyData → En → Option En} {tt : En → Out Bool} {te : En → Out PyData} (hc : X.calm = true) (hN : X.N.Nodup) (hi : Id X W C tg iter t) (ok : BlkOk X.N X.env.scope scope own)
    (hg : ∀ (s : Shared) (H : Hp) (a : Addr) (cl : List (Str × Addr)) (fp : List Addr), Gd (X.blk s H scope (compEnvC scope cl a X.env) fp) tg gt ss) (ht : ∀ (s : Shared) (H : Hp) (a : Addr) (cl : List (Str × Addr)) (fp : List Addr), Ts (X.blk s H scope (compEnvC scope cl a X.env) fp) (fun _ _ _ _ => False) C ifs tt)
    (he : ∀ (s : Shared) (H : Hp) (a : Addr) (cl : List (Str × Addr)) (fp : List Addr), Ed (X.blk s H scope (compEnvC scope cl a X.env) fp) (fun _ _ _ _ => False) C elt te) (hsub : ∀ i ∈ ss, i ∈ own.map (·.2) := by decide) (hs : ∀ x, foldedSetIterable iter X.env x = pure x := by intro _; rfl) :
    Es X W C (.ListComp elt [⟨tg, iter, ifs, 0⟩] scope pos) (dLc t gt tt te (own.map (·.2))) := by
  obtain ⟨wi, i1, i2⟩ := hi.ex
  exact ⟨_, pe_lc hc hN i1 ok (fun s H a cl fp => (hg s H a cl fp).canon) (fun s H a cl fp => (ht s H a cl fp).canon) (fun s H a cl fp => (he s H a cl fp).canon) hs, lc_read hsub i2⟩
theorem s_setLc (i : Nat) {y : Str} {py spos : Pos} {scope : Scope} {own : List (Str × Nat)} {ss : List Nat} {t : En → Out (List PyData)} {gt : PyData → En → Option En} {tt : En → Out Bool} {te : En → Out PyData} (hc : X.calm = true) (hN : X.N.Nodup)
    (hsw : swapsWith (.ListComp elt [⟨tg, iter, ifs, 0⟩] scope pos) (some (.Name y py)) spos.line X.env = pure true) (hi : Id X W C tg iter t) (ok : BlkOk X.N X.env.scope scope own)
    (hg : ∀ (s : Shared) (H : Hp) (a : Addr) (cl : List (Str × Addr)) (fp : List Addr), Gd (X.blk s H scope (compEnvC scope cl a X.env) fp) tg gt ss) (ht : ∀ (s : Shared) (H : Hp) (a : Addr) (cl : List (Str × Addr)) (fp : List Addr), Ts (X.blk s H scope (compEnvC scope cl a X.env) fp) (fun _ _ _ _ => False) C ifs tt)
    (he : ∀ (s : Shared) (H : Hp) (a : Addr) (cl : List (Str × Addr)) (fp : List Addr), Ed (X.blk s H scope (compEnvC scope cl a X.env) fp) (fun _ _ _ _ => False) C elt te) (hy : X.N[i]? = some y := by rfl) (hyl : X.env.scope.names.lookup y = some .local := by rfl) (hsub : ∀ i ∈ ss, i ∈ own.map (·.2) := by decide) (hs : ∀ x, foldedSetIterable iter X.env x = pure x := by intro _; rfl) :
    Sd X W C (.Assign [.Name y py] (.ListComp elt [⟨tg, iter, ifs, 0⟩] scope pos) spos) (gSet i (dLc t gt tt te (own.map (·.2)))) := by
  obtain ⟨wi, i1, i2⟩ := hi.ex
  refine ⟨_, ps_setLc (i := i) hc hN hy hyl hsw i1 ok (fun s H a cl fp => (hg s H a cl fp).canon) (fun s H a cl fp => (ht s H a cl fp).canon) (fun s H a cl fp => (he s H a cl fp).canon) hs, fun B G0 G H σ r D eo p => lc_read hsub i2 B G0 G H σ r _ eo ?_⟩
  exact PostF.bind (R := rS) p fun s r1 v G1 H1 e1 s1 hv q => q _ G1 H1 (e1.set i hv) (Same.refl G1)
end
end GM

namespace GM
open PySem PySem.Spec L2
section
variable {X : Cx} {W : WX} {C : Er → Addr} {pos : Pos} {e a b tg : Expr}
/-! ### int(x), list(xs), zip -/
def fInt : PyData → Option PyData
  | .int i => some (.int i)
  | .bool c => some (.int (if c then 1 else 0))
  | _ => none
@[simp] theorem fInt_i (i : Int) : fInt (.int i) = some (.int i) := rfl
@[simp] theorem fInt_b (c : Bool) : fInt (.bool c) = some (.int (if c then 1 else 0)) := rfl
theorem d_toInt {p : Pos} {t : En → Out PyData} (hm : X.mg "int" = none) (ha : Ed X W C a t) (hg : Gl X "int" := by rfl) (hs : starEach (a :: []) X.env = (false, eval a X.env) :: starEach [] X.env := by rfl) (hpl : (backTo pos (starEach [] X.env)).any (·.1) = false := by rfl) :
    Ed X W C (.Call (.Name "int" p) [a] [] pos) (op1 fInt t) := by
  obtain ⟨ea, a1, a2⟩ := ha.ex
  refine ⟨_, pe_callTy call_int1 hg hm PyProof.Rows.boot_int (pa_cons a1 pa_nil hs) (he := hs) (hpl := hpl), fun B G0 G H σ r Q eo p => ?_⟩
  refine j_op1 (R := rD) (rop := fun x H Q => (∃ i, [x] = [.int i] ∧ Q (.int i) H) ∨ ∃ k, [x] = [.bl k] ∧ Q (.int (if k then 1 else 0)) H) a2 (fun B G0 G H σ r x d s Q eo hx hf q => ?_) B G0 G H σ r Q eo p
  cases hx with
  | int i =>
    cases hf
    exact .inl ⟨i, rfl, q _ G H eo (Same.refl G) (.int _)⟩
  | bl c =>
    cases hf
    exact .inr ⟨c, rfl, q _ G H eo (Same.refl G) (.int _)⟩
  | _ => cases hf
def fList : PyData → Option Sl
  | .list l => some (.own l)
  | .tuple l => some (.own l)
  | _ => none
@[simp] theorem fList_l (l : List PyData) : fList (.list l) = some (.own l) := rfl
@[simp] theorem fList_t (l : List PyData) : fList (.tuple l) = some (.own l) := rfl
theorem s_list {p : Pos} {t : En → Out PyData} (hm : X.mg "list" = none) (ha : Ed X W C a t) (hg : Gl X "list" := by rfl) (hs : starEach (a :: []) X.env = (false, eval a X.env) :: starEach [] X.env := by rfl) (hpl : (backTo pos (starEach [] X.env)).any (·.1) = false := by rfl) :
    Es X W C (.Call (.Name "list" p) [a] [] pos) (op1 fList t) := by
  obtain ⟨ea, a1, a2⟩ := ha.ex
  refine ⟨_, pe_callTy call_list_of hg hm boot_list (pa_cons a1 pa_nil hs) (he := hs) (hpl := hpl), fun B G0 G H σ r Q eo p => ?_⟩
  refine j_op1 (R := rS) (rop := fun x H Q => ∃ p ys, [x] = [.ref p] ∧ (SqL X.K H p ys ∨ SqT X.K H p ys) ∧ ∀ l, H l = none → Q (.ref l) (upd H l (.lst ys))) a2 (fun B G0 G H σ r x d s Q eo hx hf q => ?_) B G0 G H σ r Q eo p
  cases hx with
  | lst h1 h2 =>
    cases hf
    exact ⟨_, _, rfl, .inl (eo.gh.seq h1), fun l hl => q _ G _ (eo.newOwn hl) (Same.refl G) (eo.vOwn hl h2)⟩
  | tup h1 h2 =>
    cases hf
    exact ⟨_, _, rfl, .inr (same_t eo.gh h1), fun l hl => q _ G _ (eo.newOwn hl) (Same.refl G) (eo.vOwn hl h2)⟩
  | _ => cases hf
def zipP (xs ys : List PyData) : List PyData := (xs.zip ys).map fun p => .tuple [p.1, p.2]
theorem wk_zip {K : PySem.W.Frag} {G : Hp} {a b : Addr} {vs us : List V} {ds es : List PyData} (h : SqL K G a vs) (hd : DpAll K G vs ds) (k : SqL K G b us) (hk : DpAll K G us es) : Wk K (Itz K a b) G (zipP ds es) where
  go := fun i H s hi => by
    simp [zipP] at hi
    have hv : i < vs.length := by rw [dpAll_len hd]; omega
    have hu : i < us.length := by rw [dpAll_len hk]; omega
    exact ⟨vs, us, vs[i], us[i], s.seq h, s.seq k, List.getElem?_eq_getElem hv, List.getElem?_eq_getElem hu⟩
  stop := fun i H s hi => by
    simp [zipP] at hi
    have l1 := dpAll_len hd
    have l2 := dpAll_len hk
    exact ⟨vs, us, s.seq h, s.seq k, by omega⟩
  yld := fun i x B G0 G1 H H' σ r eo s y hi => by
    simp [zipP] at hi
    obtain ⟨T, x1, x2, rfl, hT, rfl, f1, f2⟩ := y
    have h1 : i < ds.length := by omega
    have h2 : i < es.length := by omega
    obtain ⟨v, hv, dv⟩ := dpAll_get hd i _ (List.getElem?_eq_getElem h1)
    obtain ⟨u, hu, du⟩ := dpAll_get hk i _ (List.getElem?_eq_getElem h2)
    have e1 := f1 vs ((s.trans eo.gh).seq h)
    have e2 := f2 us ((s.trans eo.gh).seq k)
    rw [hv] at e1
    rw [hu] at e2
    cases e1
    cases e2
    have hG := eo.gh.free hT
    have sg : Same G1 (upd G1 T (.tup [x1, x2])) := same_upd hG
    refine ⟨.tuple [ds[i], es[i]], _, ?_, eo.newDat hT, sg, .tup (SqT.of upd_same) (.cons (dp_same (s.trans sg) _ _ dv) (.cons (dp_same (s.trans sg) _ _ du) .nil)), fun b o q => ?_⟩
    · simp only [zipP, List.getElem?_map]
      rw [List.getElem?_eq_getElem (by rw [List.length_zip]; omega), List.getElem_zip]
      rfl
    · rw [upd_ne (ne_of_none q hT)]
      exact q
def fZip : PyData → PyData → Option (List PyData)
  | .list xs, .list ys => some (zipP xs ys)
  | _, _ => none
@[simp] theorem fZip_l (xs ys : List PyData) : fZip (.list xs) (.list ys) = some (zipP xs ys) := rfl
@[simp] def iZip (t u : En → Out PyData) : En → Out (List PyData) := op2 fZip t u
theorem i_zip {elts : List Expr} {kk : Nat} {tpos p : Pos} {t u : En → Out PyData} (hm : X.mg "zip" = none) (ha : Ed X W C a t) (hb : Ed X W C b u) (hg : Gl X "zip" := by rfl) (hs1 : starEach (a :: [b]) X.env = (false, eval a X.env) :: starEach [b] X.env := by rfl) (hs2 : starEach (b :: []) X.env = (false, eval b X.env) :: starEach [] X.env := by rfl)
    (hs : starEach [a, b] X.env = (false, eval a X.env) :: starEach [b] X.env := by rfl) (hpl : (backTo pos (starEach [b] X.env)).any (·.1) = false := by rfl) : Id X W C (.Tuple elts kk tpos) (.Call (.Name "zip" p) [a, b] [] pos) (iZip t u) := by
  obtain ⟨ea, a1, a2⟩ := ha.ex
  obtain ⟨eb, b1, b2⟩ := hb.ex
  refine ⟨_, pi_zip hg hm (pa_cons a1 (pa_cons b1 pa_nil hs2) hs1) hs hpl, ?_⟩
  refine j_op2 (R := rW) (rop := fun x y H R => ∃ a b xs ys, [x, y] = [.ref a, .ref b] ∧ SqL X.K H a xs ∧ SqL X.K H b ys ∧ R (Itz X.K a b) H) a2 b2 fun B G0 G H σ r x y d e s Q eo hx hy hf q => ?_
  cases hx with
  | lst h1 h2 =>
    cases hy with
    | lst k1 k2 =>
      cases hf
      exact ⟨_, _, _, _, rfl, eo.gh.seq h1, eo.gh.seq k1, q _ G H eo (Same.refl G) (wk_zip h1 h2 k1 k2)⟩
    | _ => cases hf
  | _ => cases hy <;> cases hf
end
end GM

set_option maxHeartbeats 8000000
namespace GM
open PySem PySem.Spec L2
def topS (i : Nat) : Stmt := PySem.Challenge.pw_groupmarks_k04_where_a_state_leads.main.body.getD i (.Pass ⟨0, 0, 0, 0⟩)
section
variable {P : Program} {w : World} {K : PySem.W.Frag} {mg : Str → Option Value} {base : Heap} {C : Er → Addr}
/-! ### first_state -/
abbrev s_first_state : Stmt := topS 1
theorem sc_first_state : FnScope ["pattern"] ["pattern"] (defScope s_first_state) := ⟨rfl, rfl, rfl, by decide +kernel, rfl, by decide +kernel, by decide +kernel⟩
noncomputable def g_first_state : En → Out Fl :=
  (gRet (GM.dat (dTup (dCons (dTup (dCons (dVar 0) dNil)) (dCons (dC (.int 0)) dNil)))))
noncomputable def F_first_state : List PyData → Res := runF ["pattern"].length ["pattern"].length g_first_state
theorem ok_first_state {f : Addr} {fd : FuncData} (F : L2.Fun K "first_state" "first_state" s_first_state f fd) (gm : mg "first_state" = some (.ref f)) (T : Bi mg)   : Fn P w K mg base C 1 "first_state" 1 F_first_state := by
  have hb : Binds K fd ["pattern"] [] := F.binds fun _ _ _ _ _ _ us hl => match us, hl with | [_], _ => rfl
  refine fn_mk gm F.kp hb ?_
  refine fn_ok (k := 0) (N := ["pattern"]) (ps := ["pattern"]) (g := g_first_state) F sc_first_state fun cdv A outer s H E hr => ?_
  have nd := sc_first_state.nd
  have hu := hr.units
  have hu1 := hu_of hr
  have tk : Takes (cxOf (L2.CX P w) P w K mg base ["pattern"] "first_state" (defScope s_first_state) f cdv A outer s H E) (WF E) := takes_of rfl rfl rfl rfl
  exact (b_one (s_ret ((d_tup (a_cons (d_tup (a_cons (d_var 0) a_nil) (len_cons len_nil)) (a_cons d_int a_nil)) (len_cons (len_cons len_nil)))).dat))

/-! ### is_end -/
abbrev s_is_end : Stmt := topS 2
theorem sc_is_end : FnScope ["state", "text"] ["state", "text"] (defScope s_is_end) := ⟨rfl, rfl, rfl, by decide +kernel, rfl, by decide +kernel, by decide +kernel⟩
noncomputable def g_is_end : En → Out Fl :=
  (gRet (GM.dat (dAnd (op2 (boolD fEq) (op1 fLen (dIxV 0 (dC (.int 0)))) (dC (.int 0))) (op2 (boolD fEq) (dIxV 0 (dC (.int 1))) (dLenV 1)))))
noncomputable def F_is_end : List PyData → Res := runF ["state", "text"].length ["state", "text"].length g_is_end
theorem ok_is_end {f : Addr} {fd : FuncData} (F : L2.Fun K "is_end" "is_end" s_is_end f fd) (gm : mg "is_end" = some (.ref f)) (T : Bi mg)   : Fn P w K mg base C 1 "is_end" 2 F_is_end := by
  have hb : Binds K fd ["state", "text"] [] := F.binds fun _ _ _ _ _ _ us hl => match us, hl with | [_, _], _ => rfl
  refine fn_mk gm F.kp hb ?_
  refine fn_ok (k := 0) (N := ["state", "text"]) (ps := ["state", "text"]) (g := g_is_end) F sc_is_end fun cdv A outer s H E hr => ?_
  have nd := sc_is_end.nd
  have hu := hr.units
  have hu1 := hu_of hr
  have tk : Takes (cxOf (L2.CX P w) P w K mg base ["state", "text"] "is_end" (defScope s_is_end) f cdv A outer s H E) (WF E) := takes_of rfl rfl rfl rfl
  exact (b_one (s_ret ((d_and (d_eq hu (d_len T.len (d_ixV 0 d_int)) d_int) (d_one (d_eq hu (d_ixV 0 d_int) (d_lenV 1 T.len))))).dat))

/-! ### takes -/
abbrev s_takes : Stmt := topS 3
theorem sc_takes : FnScope ["thing", "text", "place"] ["thing", "text", "place"] (defScope s_takes) := ⟨rfl, rfl, rfl, by decide +kernel, rfl, by decide +kernel, by decide +kernel⟩
noncomputable def g_takes : En → Out Fl :=
  (gSeq (gIf (op2 fGe (dVar 2) (dLenV 1))
  (gRet (GM.dat (dC (.bool false))))
  gNx)
  (gRet (GM.dat (dOr (op2 (boolD fEq) (dIxV 0 (dC (.int 0))) (dC (.str "any"))) (op2 (boolD fEq) (dIxV 1 (dVar 2)) (dIxV 0 (dC (.int 1))))))))
noncomputable def F_takes : List PyData → Res := runF ["thing", "text", "place"].length ["thing", "text", "place"].length g_takes
theorem ok_takes {f : Addr} {fd : FuncData} (F : L2.Fun K "takes" "takes" s_takes f fd) (gm : mg "takes" = some (.ref f)) (T : Bi mg)   : Fn P w K mg base C 1 "takes" 3 F_takes := by
  have hb : Binds K fd ["thing", "text", "place"] [] := F.binds fun _ _ _ _ _ _ us hl => match us, hl with | [_, _, _], _ => rfl
  refine fn_mk gm F.kp hb ?_
  refine fn_ok (k := 0) (N := ["thing", "text", "place"]) (ps := ["thing", "text", "place"]) (g := g_takes) F sc_takes fun cdv A outer s H E hr => ?_
  have nd := sc_takes.nd
  have hu := hr.units
  have hu1 := hu_of hr
  have tk : Takes (cxOf (L2.CX P w) P w K mg base ["thing", "text", "place"] "takes" (defScope s_takes) f cdv A outer s H E) (WF E) := takes_of rfl rfl rfl rfl
  exact (b_cons (s_if (t_ge (d_var 2) (d_lenV 1 T.len))
  (b_one (s_ret (d_bl).dat))
  b_nil)
  (b_one (s_ret ((d_or (d_eq hu (d_ixV 0 d_int) d_str) (d_one (d_eq hu (d_ixV 1 (d_var 2)) (d_ixV 0 d_int))))).dat)))

/-! ### onward -/
abbrev s_onward : Stmt := topS 4
theorem sc_onward : FnScope ["state", "text", "rest", "place", "thing", "behind", "kind", "again"] ["state", "text"] (defScope s_onward) := ⟨rfl, rfl, rfl, by decide +kernel, rfl, by decide +kernel, by decide +kernel⟩
noncomputable def g_onward : En → Out Fl :=
  (gSeq (gSet 2 (GM.dat (dIxV 0 (dC (.int 0)))))
  (gSeq (gSet 3 (GM.dat (dIxV 0 (dC (.int 1)))))
  (gSeq (gIf (op2 fEq (dLenV 2) (dC (.int 0)))
  (gRet (dLst dNil))
  gNx)
  (gSeq (gSet 4 (GM.dat (dIxV 2 (dC (.int 0)))))
  (gSeq (gSet 5 (dSl (dVar 2) (oSome (dC (.int 1))) oNone))
  (gSeq (gSet 6 (GM.dat (dIxV 4 (dC (.int 0)))))
  (gSeq (gIf (tOrD (op2 fEq (dVar 6) (dC (.str "sign"))) (op2 fEq (dVar 6) (dC (.str "any"))))
  (gSeq (gIf (tVal (frz (sCall F_takes (dCons (dVar 4) (dCons (dVar 1) (dCons (dVar 3) dNil))))))
  (gRet (dLst (dCons (dTup (dCons (dVar 5) (dCons (frz (op2 fAdd (dVar 3) (dC (.int 1)))) dNil))) dNil)))
  gNx)
  (gRet (dLst dNil)))
  gNx)
  (gSeq (gIf (tOrD (op2 fEq (dVar 6) (dC (.str "none"))) (op2 fEq (dVar 6) (dC (.str "close"))))
  (gRet (dLst (dCons (dTup (dCons (dVar 5) (dCons (dVar 3) dNil))) dNil)))
  gNx)
  (gSeq (gIf (op2 fEq (dVar 6) (dC (.str "row")))
  (gRet (dLst (dCons (dTup (dCons (frz (op2 fAdd (dTup (dCons (dIxV 4 (dC (.int 1))) (dCons (dIxV 4 (dC (.int 2))) dNil))) (dVar 5))) (dCons (dVar 3) dNil))) dNil)))
  gNx)
  (gSeq (gIf (op2 fEq (dVar 6) (dC (.str "or")))
  (gRet (dLst (dCons (dTup (dCons (frz (op2 fAdd (dTup (dCons (dIxV 4 (dC (.int 1))) dNil)) (dVar 5))) (dCons (dVar 3) dNil))) (dCons (dTup (dCons (frz (op2 fAdd (dTup (dCons (dIxV 4 (dC (.int 2))) dNil)) (dVar 5))) (dCons (dVar 3) dNil))) dNil))))
  gNx)
  (gSeq (gIf (op2 fEq (dVar 6) (dC (.str "group")))
  (gRet (dLst (dCons (dTup (dCons (frz (op2 fAdd (dTup (dCons (dIxV 4 (dC (.int 2))) (dCons (dTup (dCons (dC (.str "close")) (dCons (dIxV 4 (dC (.int 1))) dNil))) dNil))) (dVar 5))) (dCons (dVar 3) dNil))) dNil)))
  gNx)
  (gSeq (gSet 7 (GM.dat (dTup (dCons (frz (op2 fAdd (dTup (dCons (dIxV 4 (dC (.int 1))) (dCons (dVar 4) dNil))) (dVar 5))) (dCons (dVar 3) dNil)))))
  (gSeq (gIf (op2 fEq (dVar 6) (dC (.str "more")))
  (gRet (dLst (dCons (dVar 7) (dCons (dTup (dCons (dVar 5) (dCons (dVar 3) dNil))) dNil))))
  gNx)
  (gRet (dLst (dCons (dTup (dCons (dVar 5) (dCons (dVar 3) dNil))) (dCons (dVar 7) dNil)))))))))))))))))
noncomputable def F_onward : List PyData → Res := runF ["state", "text", "rest", "place", "thing", "behind", "kind", "again"].length ["state", "text"].length g_onward
theorem ok_onward {f : Addr} {fd : FuncData} (F : L2.Fun K "onward" "onward" s_onward f fd) (gm : mg "onward" = some (.ref f)) (T : Bi mg) (c_takes : Fn P w K mg base C 1 "takes" 3 F_takes)  : Fn P w K mg base C 2 "onward" 2 F_onward := by
  have hb : Binds K fd ["state", "text"] [] := F.binds fun _ _ _ _ _ _ us hl => match us, hl with | [_, _], _ => rfl
  refine fn_mk gm F.kp hb ?_
  refine fn_ok (k := 1) (N := ["state", "text", "rest", "place", "thing", "behind", "kind", "again"]) (ps := ["state", "text"]) (g := g_onward) F sc_onward fun cdv A outer s H E hr => ?_
  have nd := sc_onward.nd
  have hu := hr.units
  have hu1 := hu_of hr
  have tk : Takes (cxOf (L2.CX P w) P w K mg base ["state", "text", "rest", "place", "thing", "behind", "kind", "again"] "onward" (defScope s_onward) f cdv A outer s H E) (WF E) := takes_of rfl rfl rfl rfl
  exact (b_cons (s_set 2 nd ((d_ixV 0 d_int)).dat)
  (b_cons (s_set 3 nd ((d_ixV 0 d_int)).dat)
  (b_cons (s_if (t_eq hu (d_lenV 2 T.len) d_int)
  (b_one (s_ret (s_lst a_nil len_nil)))
  b_nil)
  (b_cons (s_set 4 nd ((d_ixV 2 d_int)).dat)
  (b_cons (s_set 5 nd (s_slice (d_var 2) (o_some d_int) o_none))
  (b_cons (s_set 6 nd ((d_ixV 4 d_int)).dat)
  (b_cons (s_if ((w_or (t_eq hu (d_var 6) d_str) (w_or1 (t_eq hu (d_var 6) d_str)))).t
  (b_cons (s_if (t_valD ((s_call c_takes hr tk (a_cons (d_var 4) (a_cons (d_var 1) (a_cons (d_var 3) a_nil))) (len_cons (len_cons (len_cons len_nil))))).frz)
  (b_one (s_ret (s_lst (a_cons (d_tup (a_cons (d_var 5) (a_cons ((s_add (d_var 3) d_int)).frz a_nil)) (len_cons (len_cons len_nil))) a_nil) (len_cons len_nil))))
  b_nil)
  (b_one (s_ret (s_lst a_nil len_nil))))
  b_nil)
  (b_cons (s_if ((w_or (t_eq hu (d_var 6) d_str) (w_or1 (t_eq hu (d_var 6) d_str)))).t
  (b_one (s_ret (s_lst (a_cons (d_tup (a_cons (d_var 5) (a_cons (d_var 3) a_nil)) (len_cons (len_cons len_nil))) a_nil) (len_cons len_nil))))
  b_nil)
  (b_cons (s_if (t_eq hu (d_var 6) d_str)
  (b_one (s_ret (s_lst (a_cons (d_tup (a_cons ((s_add (d_tup (a_cons (d_ixV 4 d_int) (a_cons (d_ixV 4 d_int) a_nil)) (len_cons (len_cons len_nil))) (d_var 5))).frz (a_cons (d_var 3) a_nil)) (len_cons (len_cons len_nil))) a_nil) (len_cons len_nil))))
  b_nil)
  (b_cons (s_if (t_eq hu (d_var 6) d_str)
  (b_one (s_ret (s_lst (a_cons (d_tup (a_cons ((s_add (d_tup (a_cons (d_ixV 4 d_int) a_nil) (len_cons len_nil)) (d_var 5))).frz (a_cons (d_var 3) a_nil)) (len_cons (len_cons len_nil))) (a_cons (d_tup (a_cons ((s_add (d_tup (a_cons (d_ixV 4 d_int) a_nil) (len_cons len_nil)) (d_var 5))).frz (a_cons (d_var 3) a_nil)) (len_cons (len_cons len_nil))) a_nil)) (len_cons (len_cons len_nil)))))
  b_nil)
  (b_cons (s_if (t_eq hu (d_var 6) d_str)
  (b_one (s_ret (s_lst (a_cons (d_tup (a_cons ((s_add (d_tup (a_cons (d_ixV 4 d_int) (a_cons (d_tup (a_cons d_str (a_cons (d_ixV 4 d_int) a_nil)) (len_cons (len_cons len_nil))) a_nil)) (len_cons (len_cons len_nil))) (d_var 5))).frz (a_cons (d_var 3) a_nil)) (len_cons (len_cons len_nil))) a_nil) (len_cons len_nil))))
  b_nil)
  (b_cons (s_set 7 nd ((d_tup (a_cons ((s_add (d_tup (a_cons (d_ixV 4 d_int) (a_cons (d_var 4) a_nil)) (len_cons (len_cons len_nil))) (d_var 5))).frz (a_cons (d_var 3) a_nil)) (len_cons (len_cons len_nil)))).dat)
  (b_cons (s_if (t_eq hu (d_var 6) d_str)
  (b_one (s_ret (s_lst (a_cons (d_var 7) (a_cons (d_tup (a_cons (d_var 5) (a_cons (d_var 3) a_nil)) (len_cons (len_cons len_nil))) a_nil)) (len_cons (len_cons len_nil)))))
  b_nil)
  (b_one (s_ret (s_lst (a_cons (d_tup (a_cons (d_var 5) (a_cons (d_var 3) a_nil)) (len_cons (len_cons len_nil))) (a_cons (d_var 7) a_nil)) (len_cons (len_cons len_nil))))))))))))))))))

/-! ### _law_cell_at -/
abbrev s__law_cell_at : Stmt := topS 6
theorem sc__law_cell_at : FnScope ["_law_script", "_law_k"] ["_law_script", "_law_k"] (defScope s__law_cell_at) := ⟨rfl, rfl, rfl, by decide +kernel, rfl, by decide +kernel, by decide +kernel⟩
noncomputable def g__law_cell_at : En → Out Fl :=
  (gSeq (gIf (op2 fLt (dVar 1) (dLenV 0))
  (gRet (GM.dat (dIxV 0 (dVar 1))))
  gNx)
  (gRet (GM.dat (dC (.int 0)))))
noncomputable def F__law_cell_at : List PyData → Res := runF ["_law_script", "_law_k"].length ["_law_script", "_law_k"].length g__law_cell_at
theorem ok__law_cell_at {f : Addr} {fd : FuncData} (F : L2.Fun K "_law_cell_at" "_law_cell_at" s__law_cell_at f fd) (gm : mg "_law_cell_at" = some (.ref f)) (T : Bi mg)   : Fn P w K mg base C 1 "_law_cell_at" 2 F__law_cell_at := by
  have hb : Binds K fd ["_law_script", "_law_k"] [] := F.binds fun _ _ _ _ _ _ us hl => match us, hl with | [_, _], _ => rfl
  refine fn_mk gm F.kp hb ?_
  refine fn_ok (k := 0) (N := ["_law_script", "_law_k"]) (ps := ["_law_script", "_law_k"]) (g := g__law_cell_at) F sc__law_cell_at fun cdv A outer s H E hr => ?_
  have nd := sc__law_cell_at.nd
  have hu := hr.units
  have hu1 := hu_of hr
  have tk : Takes (cxOf (L2.CX P w) P w K mg base ["_law_script", "_law_k"] "_law_cell_at" (defScope s__law_cell_at) f cdv A outer s H E) (WF E) := takes_of rfl rfl rfl rfl
  exact (b_cons (s_if (t_lt (d_var 1) (d_lenV 0 T.len))
  (b_one (s_ret ((d_ixV 0 (d_var 1))).dat))
  b_nil)
  (b_one (s_ret (d_int).dat)))

/-! ### _law_sign -/
abbrev s__law_sign : Stmt := topS 7
theorem sc__law_sign : FnScope ["_law_cell", "_law_some"] ["_law_cell"] (defScope s__law_sign) := ⟨rfl, rfl, rfl, by decide +kernel, rfl, by decide +kernel, by decide +kernel⟩
noncomputable def g__law_sign : En → Out Fl :=
  (gSeq (gSet 1 (GM.dat (dC (.str " !\"#$&'()*+,-./0123456789:;<=>?@ABCDEFGHIJKLMNOPQRSTUVWXYZ[\\]^_`"))))
  (gSeq (gSet 1 (op2 fAdd (dVar 1) (dC (.str "abcdefghijklmnopqrstuvwxyz{|}~\n"))))
  (gRet (GM.dat (dIxV 1 (op2 fMod (dVar 0) (dC (.int 95))))))))
noncomputable def F__law_sign : List PyData → Res := runF ["_law_cell", "_law_some"].length ["_law_cell"].length g__law_sign
theorem ok__law_sign {f : Addr} {fd : FuncData} (F : L2.Fun K "_law_sign" "_law_sign" s__law_sign f fd) (gm : mg "_law_sign" = some (.ref f)) (T : Bi mg)   : Fn P w K mg base C 1 "_law_sign" 1 F__law_sign := by
  have hb : Binds K fd ["_law_cell"] [] := F.binds fun _ _ _ _ _ _ us hl => match us, hl with | [_], _ => rfl
  refine fn_mk gm F.kp hb ?_
  refine fn_ok (k := 0) (N := ["_law_cell", "_law_some"]) (ps := ["_law_cell"]) (g := g__law_sign) F sc__law_sign fun cdv A outer s H E hr => ?_
  have nd := sc__law_sign.nd
  have hu := hr.units
  have hu1 := hu_of hr
  have tk : Takes (cxOf (L2.CX P w) P w K mg base ["_law_cell", "_law_some"] "_law_sign" (defScope s__law_sign) f cdv A outer s H E) (WF E) := takes_of rfl rfl rfl rfl
  exact (b_cons (s_set 1 nd (d_str).dat)
  (b_cons (s_set 1 nd (s_add (d_var 1) d_str))
  (b_one (s_ret ((d_ixV 1 (d_mod (d_var 0) d_int))).dat))))

/-! ### _law_leaf -/
abbrev s__law_leaf : Stmt := topS 8
theorem sc__law_leaf : FnScope ["_law_cell", "_law_head"] ["_law_cell", "_law_head"] (defScope s__law_leaf) := ⟨rfl, rfl, rfl, by decide +kernel, rfl, by decide +kernel, by decide +kernel⟩
noncomputable def g__law_leaf : En → Out Fl :=
  (gSeq (gIf (tAndD (op2 fEq (op2 fMod (dVar 0) (dC (.int 6))) (dC (.int 5))) (op2 fEq (op2 fMod (op2 fDiv (dVar 0) (dC (.int 6))) (dC (.int 3))) (dC (.int 0))))
  (gRet (GM.dat (dTup (dCons (dTup (dCons (dC (.str "none")) dNil)) (dCons (dC (.bool true)) dNil)))))
  gNx)
  (gSeq (gIf (op2 fEq (op2 fMod (dVar 0) (dC (.int 6))) (dC (.int 5)))
  (gRet (GM.dat (dTup (dCons (dTup (dCons (dC (.str "any")) dNil)) (dCons (dC (.bool false)) dNil)))))
  gNx)
  (gSeq (gIf (op2 fEq (op2 fMod (dVar 0) (dC (.int 6))) (dC (.int 4)))
  (gRet (GM.dat (dTup (dCons (dTup (dCons (dC (.str "sign")) (dCons (frz (sCall F__law_sign (dCons (op2 fDiv (dVar 0) (dC (.int 6))) dNil))) dNil))) (dCons (dC (.bool false)) dNil)))))
  gNx)
  (gRet (GM.dat (dTup (dCons (dTup (dCons (dC (.str "sign")) (dCons (frz (sCall F__law_sign (dCons (op2 fIx (frz (dLst (dCons (dVar 1) (dCons (op2 fDiv (dVar 1) (dC (.int 95))) dNil)))) (op1 fInt (op2 (boolD fEq) (op2 fMod (dVar 0) (dC (.int 6))) (dC (.int 3))))) dNil))) dNil))) (dCons (dC (.bool false)) dNil))))))))
noncomputable def F__law_leaf : List PyData → Res := runF ["_law_cell", "_law_head"].length ["_law_cell", "_law_head"].length g__law_leaf
theorem ok__law_leaf {f : Addr} {fd : FuncData} (F : L2.Fun K "_law_leaf" "_law_leaf" s__law_leaf f fd) (gm : mg "_law_leaf" = some (.ref f)) (T : Bi mg) (c__law_sign : Fn P w K mg base C 1 "_law_sign" 1 F__law_sign)  : Fn P w K mg base C 2 "_law_leaf" 2 F__law_leaf := by
  have hb : Binds K fd ["_law_cell", "_law_head"] [] := F.binds fun _ _ _ _ _ _ us hl => match us, hl with | [_, _], _ => rfl
  refine fn_mk gm F.kp hb ?_
  refine fn_ok (k := 1) (N := ["_law_cell", "_law_head"]) (ps := ["_law_cell", "_law_head"]) (g := g__law_leaf) F sc__law_leaf fun cdv A outer s H E hr => ?_
  have nd := sc__law_leaf.nd
  have hu := hr.units
  have hu1 := hu_of hr
  have tk : Takes (cxOf (L2.CX P w) P w K mg base ["_law_cell", "_law_head"] "_law_leaf" (defScope s__law_leaf) f cdv A outer s H E) (WF E) := takes_of rfl rfl rfl rfl
  exact (b_cons (s_if ((w_and (t_eq hu (d_mod (d_var 0) d_int) d_int) (w_and1 (t_eq hu (d_mod (d_fdiv (d_var 0) d_int) d_int) d_int)))).t
  (b_one (s_ret ((d_tup (a_cons (d_tup (a_cons d_str a_nil) (len_cons len_nil)) (a_cons d_bl a_nil)) (len_cons (len_cons len_nil)))).dat))
  b_nil)
  (b_cons (s_if (t_eq hu (d_mod (d_var 0) d_int) d_int)
  (b_one (s_ret ((d_tup (a_cons (d_tup (a_cons d_str a_nil) (len_cons len_nil)) (a_cons d_bl a_nil)) (len_cons (len_cons len_nil)))).dat))
  b_nil)
  (b_cons (s_if (t_eq hu (d_mod (d_var 0) d_int) d_int)
  (b_one (s_ret ((d_tup (a_cons (d_tup (a_cons d_str (a_cons ((s_call c__law_sign hr tk (a_cons (d_fdiv (d_var 0) d_int) a_nil) (len_cons len_nil))).frz a_nil)) (len_cons (len_cons len_nil))) (a_cons d_bl a_nil)) (len_cons (len_cons len_nil)))).dat))
  b_nil)
  (b_one (s_ret ((d_tup (a_cons (d_tup (a_cons d_str (a_cons ((s_call c__law_sign hr tk (a_cons (d_ix ((s_lst (a_cons (d_var 1) (a_cons (d_fdiv (d_var 1) d_int) a_nil)) (len_cons (len_cons len_nil)))).frz (d_toInt T.int (d_eq hu (d_mod (d_var 0) d_int) d_int))) a_nil) (len_cons len_nil))).frz a_nil)) (len_cons (len_cons len_nil))) (a_cons d_bl a_nil)) (len_cons (len_cons len_nil)))).dat)))))

/-! ### _law_two -/
abbrev s__law_two : Stmt := topS 9
theorem sc__law_two : FnScope ["_law_cell", "_law_left", "_law_right"] ["_law_cell", "_law_left", "_law_right"] (defScope s__law_two) := ⟨rfl, rfl, rfl, by decide +kernel, rfl, by decide +kernel, by decide +kernel⟩
noncomputable def g__law_two : En → Out Fl :=
  (gSeq (gIf (op2 fEq (op2 fMod (dVar 0) (dC (.int 2))) (dC (.int 0)))
  (gRet (GM.dat (dTup (dCons (dTup (dCons (dC (.str "row")) (dCons (dIxV 1 (dC (.int 0))) (dCons (dIxV 2 (dC (.int 0))) dNil)))) (dCons (dAnd (dIxV 1 (dC (.int 1))) (dIxV 2 (dC (.int 1)))) dNil)))))
  gNx)
  (gRet (GM.dat (dTup (dCons (dTup (dCons (dC (.str "or")) (dCons (dIxV 1 (dC (.int 0))) (dCons (dIxV 2 (dC (.int 0))) dNil)))) (dCons (dOr (dIxV 1 (dC (.int 1))) (dIxV 2 (dC (.int 1)))) dNil))))))
noncomputable def F__law_two : List PyData → Res := runF ["_law_cell", "_law_left", "_law_right"].length ["_law_cell", "_law_left", "_law_right"].length g__law_two
theorem ok__law_two {f : Addr} {fd : FuncData} (F : L2.Fun K "_law_two" "_law_two" s__law_two f fd) (gm : mg "_law_two" = some (.ref f)) (T : Bi mg)   : Fn P w K mg base C 1 "_law_two" 3 F__law_two := by
  have hb : Binds K fd ["_law_cell", "_law_left", "_law_right"] [] := F.binds fun _ _ _ _ _ _ us hl => match us, hl with | [_, _, _], _ => rfl
  refine fn_mk gm F.kp hb ?_
  refine fn_ok (k := 0) (N := ["_law_cell", "_law_left", "_law_right"]) (ps := ["_law_cell", "_law_left", "_law_right"]) (g := g__law_two) F sc__law_two fun cdv A outer s H E hr => ?_
  have nd := sc__law_two.nd
  have hu := hr.units
  have hu1 := hu_of hr
  have tk : Takes (cxOf (L2.CX P w) P w K mg base ["_law_cell", "_law_left", "_law_right"] "_law_two" (defScope s__law_two) f cdv A outer s H E) (WF E) := takes_of rfl rfl rfl rfl
  exact (b_cons (s_if (t_eq hu (d_mod (d_var 0) d_int) d_int)
  (b_one (s_ret ((d_tup (a_cons (d_tup (a_cons d_str (a_cons (d_ixV 1 d_int) (a_cons (d_ixV 2 d_int) a_nil))) (len_cons (len_cons (len_cons len_nil)))) (a_cons (d_and (d_ixV 1 d_int) (d_one (d_ixV 2 d_int))) a_nil)) (len_cons (len_cons len_nil)))).dat))
  b_nil)
  (b_one (s_ret ((d_tup (a_cons (d_tup (a_cons d_str (a_cons (d_ixV 1 d_int) (a_cons (d_ixV 2 d_int) a_nil))) (len_cons (len_cons (len_cons len_nil)))) (a_cons (d_or (d_ixV 1 d_int) (d_one (d_ixV 2 d_int))) a_nil)) (len_cons (len_cons len_nil)))).dat)))

/-! ### _law_round -/
abbrev s__law_round : Stmt := topS 10
theorem sc__law_round : FnScope ["_law_cell", "_law_part", "_law_head", "_law_inside"] ["_law_cell", "_law_part", "_law_head"] (defScope s__law_round) := ⟨rfl, rfl, rfl, by decide +kernel, rfl, by decide +kernel, by decide +kernel⟩
noncomputable def g__law_round : En → Out Fl :=
  (gSeq (gSet 3 (GM.dat (dIxV 1 (dC (.int 0)))))
  (gSeq (gIf (tVal (dIxV 1 (dC (.int 1))))
  (gSet 3 (GM.dat (dTup (dCons (dC (.str "row")) (dCons (dTup (dCons (dC (.str "sign")) (dCons (frz (sCall F__law_sign (dCons (dVar 2) dNil))) dNil))) (dCons (dVar 3) dNil))))))
  gNx)
  (gRet (GM.dat (dTup (dCons (op2 fIx (frz (dLst (dCons (dTup (dCons (dC (.str "more")) (dCons (dVar 3) dNil))) (dCons (dTup (dCons (dC (.str "less")) (dCons (dVar 3) dNil))) dNil)))) (op2 fMod (dVar 0) (dC (.int 2)))) (dCons (dC (.bool true)) dNil)))))))
noncomputable def F__law_round : List PyData → Res := runF ["_law_cell", "_law_part", "_law_head", "_law_inside"].length ["_law_cell", "_law_part", "_law_head"].length g__law_round
theorem ok__law_round {f : Addr} {fd : FuncData} (F : L2.Fun K "_law_round" "_law_round" s__law_round f fd) (gm : mg "_law_round" = some (.ref f)) (T : Bi mg) (c__law_sign : Fn P w K mg base C 1 "_law_sign" 1 F__law_sign)  : Fn P w K mg base C 2 "_law_round" 3 F__law_round := by
  have hb : Binds K fd ["_law_cell", "_law_part", "_law_head"] [] := F.binds fun _ _ _ _ _ _ us hl => match us, hl with | [_, _, _], _ => rfl
  refine fn_mk gm F.kp hb ?_
  refine fn_ok (k := 1) (N := ["_law_cell", "_law_part", "_law_head", "_law_inside"]) (ps := ["_law_cell", "_law_part", "_law_head"]) (g := g__law_round) F sc__law_round fun cdv A outer s H E hr => ?_
  have nd := sc__law_round.nd
  have hu := hr.units
  have hu1 := hu_of hr
  have tk : Takes (cxOf (L2.CX P w) P w K mg base ["_law_cell", "_law_part", "_law_head", "_law_inside"] "_law_round" (defScope s__law_round) f cdv A outer s H E) (WF E) := takes_of rfl rfl rfl rfl
  exact (b_cons (s_set 3 nd ((d_ixV 1 d_int)).dat)
  (b_cons (s_if (t_valD (d_ixV 1 d_int))
  (b_one (s_set 3 nd ((d_tup (a_cons d_str (a_cons (d_tup (a_cons d_str (a_cons ((s_call c__law_sign hr tk (a_cons (d_var 2) a_nil) (len_cons len_nil))).frz a_nil)) (len_cons (len_cons len_nil))) (a_cons (d_var 3) a_nil))) (len_cons (len_cons (len_cons len_nil))))).dat))
  b_nil)
  (b_one (s_ret ((d_tup (a_cons (d_ix ((s_lst (a_cons (d_tup (a_cons d_str (a_cons (d_var 3) a_nil)) (len_cons (len_cons len_nil))) (a_cons (d_tup (a_cons d_str (a_cons (d_var 3) a_nil)) (len_cons (len_cons len_nil))) a_nil)) (len_cons (len_cons len_nil)))).frz (d_mod (d_var 0) d_int)) (a_cons d_bl a_nil)) (len_cons (len_cons len_nil)))).dat))))

/-! ### _law_made -/
abbrev s__law_made : Stmt := topS 11
theorem sc__law_made : FnScope ["_law_cells", "_law_head", "_law_pile", "_law_step", "_law_number", "_law_cell", "_law_kind", "_law_right", "_law_part"] ["_law_cells", "_law_head"] (defScope s__law_made) := ⟨rfl, rfl, rfl, by decide +kernel, rfl, by decide +kernel, by decide +kernel⟩
noncomputable def b__law_made_0 : En → Out Fl :=
  (gSeq (gSet 6 (GM.dat (op2 fMod (dVar 5) (dC (.int 10)))))
  (gIf (tOrD (op2 fLt (dVar 6) (dC (.int 3))) (tOrD (op2 fEq (dLenV 2) (dC (.int 0))) (tAndD (op2 fLt (dVar 6) (dC (.int 6))) (op2 fLt (dLenV 2) (dC (.int 2))))))
  (gApp 2 (frz (sCall F__law_leaf (dCons (op2 fDiv (dVar 5) (dC (.int 10))) (dCons (dVar 1) dNil)))))
  (gIf (op2 fLt (dVar 6) (dC (.int 6)))
  (gSeq (gSet 7 (GM.dat (dPop 2)))
  (gApp 2 (frz (sCall F__law_two (dCons (op2 fDiv (dVar 5) (dC (.int 10))) (dCons (dPop 2) (dCons (dVar 7) dNil)))))))
  (gIf (op2 fLt (dVar 6) (dC (.int 8)))
  (gApp 2 (frz (sCall F__law_round (dCons (op2 fDiv (dVar 5) (dC (.int 10))) (dCons (dPop 2) (dCons (dVar 1) dNil))))))
  (gSeq (gSet 4 (op2 fAdd (dVar 4) (dVar 3)))
  (gSeq (gSet 8 (GM.dat (dPop 2)))
  (gApp 2 (dTup (dCons (dTup (dCons (dC (.str "group")) (dCons (dVar 4) (dCons (dIxV 8 (dC (.int 0))) dNil)))) (dCons (dIxV 8 (dC (.int 1))) dNil))))))))))
noncomputable def b__law_made_1 : En → Out Fl :=
  (gSeq (gSet 7 (GM.dat (dPop 2)))
  (gApp 2 (frz (sCall F__law_two (dCons (dC (.int 0)) (dCons (dPop 2) (dCons (dVar 7) dNil)))))))
noncomputable def g__law_made : En → Out Fl :=
  (gSeq (gSet 2 (dLst dNil))
  (gSeq (gSet 3 (op2 fAdd (dC (.int 1)) (op2 fMod (op2 fDiv (dVar 1) (dC (.int 7))) (dC (.int 900)))))
  (gSeq (gSet 4 (GM.dat (op2 fMod (dVar 1) (dVar 3))))
  (gSeq (gFor (iLst (dVar 0)) (gtN 5) b__law_made_0)
  (gSeq (gWhile (op2 fGt (dLenV 2) (dC (.int 1))) b__law_made_1)
  (gSeq (gIf (op2 fEq (dLenV 2) (dC (.int 0)))
  (gRet (GM.dat (dTup (dCons (dC (.str "none")) dNil))))
  gNx)
  (gRet (GM.dat (op2 fIx (dIxV 2 (dC (.int 0))) (dC (.int 0)))))))))))
noncomputable def F__law_made : List PyData → Res := runF ["_law_cells", "_law_head", "_law_pile", "_law_step", "_law_number", "_law_cell", "_law_kind", "_law_right", "_law_part"].length ["_law_cells", "_law_head"].length g__law_made
theorem ok__law_made {f : Addr} {fd : FuncData} (F : L2.Fun K "_law_made" "_law_made" s__law_made f fd) (gm : mg "_law_made" = some (.ref f)) (T : Bi mg) (c__law_leaf : Fn P w K mg base C 2 "_law_leaf" 2 F__law_leaf) (c__law_round : Fn P w K mg base C 2 "_law_round" 3 F__law_round) (c__law_two : Fn P w K mg base C 1 "_law_two" 3 F__law_two)  : Fn P w K mg base C 3 "_law_made" 2 F__law_made := by
  have hb : Binds K fd ["_law_cells", "_law_head"] [] := F.binds fun _ _ _ _ _ _ us hl => match us, hl with | [_, _], _ => rfl
  refine fn_mk gm F.kp hb ?_
  refine fn_ok (k := 2) (N := ["_law_cells", "_law_head", "_law_pile", "_law_step", "_law_number", "_law_cell", "_law_kind", "_law_right", "_law_part"]) (ps := ["_law_cells", "_law_head"]) (g := g__law_made) F sc__law_made fun cdv A outer s H E hr => ?_
  have nd := sc__law_made.nd
  have hu := hr.units
  have hu1 := hu_of hr
  have tk : Takes (cxOf (L2.CX P w) P w K mg base ["_law_cells", "_law_head", "_law_pile", "_law_step", "_law_number", "_law_cell", "_law_kind", "_law_right", "_law_part"] "_law_made" (defScope s__law_made) f cdv A outer s H E) (WF E) := takes_of rfl rfl rfl rfl
  have hp : PassesOwn (model P w) (cxOf (L2.CX P w) P w K mg base ["_law_cells", "_law_head", "_law_pile", "_law_step", "_law_number", "_law_cell", "_law_kind", "_law_right", "_law_part"] "_law_made" (defScope s__law_made) f cdv A outer s H E).A (cxOf (L2.CX P w) P w K mg base ["_law_cells", "_law_head", "_law_pile", "_law_step", "_law_number", "_law_cell", "_law_kind", "_law_right", "_law_part"] "_law_made" (defScope s__law_made) f cdv A outer s H E).env (cxOf (L2.CX P w) P w K mg base ["_law_cells", "_law_head", "_law_pile", "_law_step", "_law_number", "_law_cell", "_law_kind", "_law_right", "_law_part"] "_law_made" (defScope s__law_made) f cdv A outer s H E).xe := passes_of (X := cxOf (L2.CX P w) P w K mg base ["_law_cells", "_law_head", "_law_pile", "_law_step", "_law_number", "_law_cell", "_law_kind", "_law_right", "_law_part"] "_law_made" (defScope s__law_made) f cdv A outer s H E) rfl
  exact (b_cons (s_set 2 nd (s_lst a_nil len_nil))
  (b_cons (s_set 3 nd (s_add d_int (d_mod (d_fdiv (d_var 1) d_int) d_int)))
  (b_cons (s_set 4 nd ((d_mod (d_var 1) (d_var 3))).dat)
  (b_cons (s_for hp rfl (i_list (d_var 0)) (g_name 5 nd)
  (b_cons (s_set 6 nd ((d_mod (d_var 5) d_int)).dat)
  (b_one (s_if ((w_or (t_lt (d_var 6) d_int) (w_or (t_eq hu (d_lenV 2 T.len) d_int) (w_or1 ((w_and (t_lt (d_var 6) d_int) (w_and1 (t_lt (d_lenV 2 T.len) d_int)))).t)))).t
  (b_one (s_app 2 ((s_call c__law_leaf hr tk (a_cons (d_fdiv (d_var 5) d_int) (a_cons (d_var 1) a_nil)) (len_cons (len_cons len_nil)))).frz))
  (b_one (s_if (t_lt (d_var 6) d_int)
  (b_cons (s_set 7 nd ((d_pop 2)).dat)
  (b_one (s_app 2 ((s_call c__law_two hr tk (a_cons (d_fdiv (d_var 5) d_int) (a_cons (d_pop 2) (a_cons (d_var 7) a_nil))) (len_cons (len_cons (len_cons len_nil))))).frz)))
  (b_one (s_if (t_lt (d_var 6) d_int)
  (b_one (s_app 2 ((s_call c__law_round hr tk (a_cons (d_fdiv (d_var 5) d_int) (a_cons (d_pop 2) (a_cons (d_var 1) a_nil))) (len_cons (len_cons (len_cons len_nil))))).frz))
  (b_cons (s_set 4 nd (s_add (d_var 4) (d_var 3)))
  (b_cons (s_set 8 nd ((d_pop 2)).dat)
  (b_one (s_app 2 (d_tup (a_cons (d_tup (a_cons d_str (a_cons (d_var 4) (a_cons (d_ixV 8 d_int) a_nil))) (len_cons (len_cons (len_cons len_nil)))) (a_cons (d_ixV 8 d_int) a_nil)) (len_cons (len_cons len_nil)))))))))))))))
  (b_cons (s_while hp (t_gt (d_lenV 2 T.len) d_int)
  (b_cons (s_set 7 nd ((d_pop 2)).dat)
  (b_one (s_app 2 ((s_call c__law_two hr tk (a_cons d_int (a_cons (d_pop 2) (a_cons (d_var 7) a_nil))) (len_cons (len_cons (len_cons len_nil))))).frz))))
  (b_cons (s_if (t_eq hu (d_lenV 2 T.len) d_int)
  (b_one (s_ret ((d_tup (a_cons d_str a_nil) (len_cons len_nil))).dat))
  b_nil)
  (b_one (s_ret ((d_ix (d_ixV 2 d_int) d_int)).dat))))))))

/-! ### _law_due -/
abbrev s__law_due : Stmt := topS 12
theorem sc__law_due : FnScope ["_law_rest", "_law_place", "_law_text", "_law_thing", "_law_behind"] ["_law_rest", "_law_place", "_law_text"] (defScope s__law_due) := ⟨rfl, rfl, rfl, by decide +kernel, rfl, by decide +kernel, by decide +kernel⟩
noncomputable def g__law_due : En → Out Fl :=
  (gSeq (gIf (op2 fEq (dLenV 0) (dC (.int 0)))
  (gRet (dLst dNil))
  gNx)
  (gSeq (gSet 3 (GM.dat (dIxV 0 (dC (.int 0)))))
  (gSeq (gSet 4 (dSl (dVar 0) (oSome (dC (.int 1))) oNone))
  (gSeq (gIf (tOrD (op2 fEq (dIxV 3 (dC (.int 0))) (dC (.str "sign"))) (op2 fEq (dIxV 3 (dC (.int 0))) (dC (.str "any"))))
  (gSeq (gIf (tOrD (op2 fEq (dVar 1) (dLenV 2)) (tAndD (op2 fEq (dIxV 3 (dC (.int 0))) (dC (.str "sign"))) (op2 fNe (dIxV 3 (dC (.int 1))) (dIxV 2 (dVar 1)))))
  (gRet (dLst dNil))
  gNx)
  (gRet (dLst (dCons (dTup (dCons (dVar 4) (dCons (frz (op2 fAdd (dVar 1) (dC (.int 1)))) dNil))) dNil))))
  gNx)
  (gSeq (gIf (op2 fEq (dIxV 3 (dC (.int 0))) (dC (.str "row")))
  (gRet (dLst (dCons (dTup (dCons (frz (op2 fAdd (dTup (dCons (dIxV 3 (dC (.int 1))) (dCons (dIxV 3 (dC (.int 2))) dNil))) (dVar 4))) (dCons (dVar 1) dNil))) dNil)))
  gNx)
  (gSeq (gIf (op2 fEq (dIxV 3 (dC (.int 0))) (dC (.str "or")))
  (gRet (dLst (dCons (dTup (dCons (frz (op2 fAdd (dTup (dCons (dIxV 3 (dC (.int 1))) dNil)) (dVar 4))) (dCons (dVar 1) dNil))) (dCons (dTup (dCons (frz (op2 fAdd (dTup (dCons (dIxV 3 (dC (.int 2))) dNil)) (dVar 4))) (dCons (dVar 1) dNil))) dNil))))
  gNx)
  (gSeq (gIf (op2 fEq (dIxV 3 (dC (.int 0))) (dC (.str "more")))
  (gRet (dLst (dCons (dTup (dCons (frz (op2 fAdd (dTup (dCons (dIxV 3 (dC (.int 1))) (dCons (dVar 3) dNil))) (dVar 4))) (dCons (dVar 1) dNil))) (dCons (dTup (dCons (dVar 4) (dCons (dVar 1) dNil))) dNil))))
  gNx)
  (gSeq (gIf (op2 fEq (dIxV 3 (dC (.int 0))) (dC (.str "less")))
  (gRet (dLst (dCons (dTup (dCons (dVar 4) (dCons (dVar 1) dNil))) (dCons (dTup (dCons (frz (op2 fAdd (dTup (dCons (dIxV 3 (dC (.int 1))) (dCons (dVar 3) dNil))) (dVar 4))) (dCons (dVar 1) dNil))) dNil))))
  gNx)
  (gSeq (gIf (op2 fEq (dIxV 3 (dC (.int 0))) (dC (.str "group")))
  (gRet (dLst (dCons (dTup (dCons (frz (op2 fAdd (dTup (dCons (dIxV 3 (dC (.int 2))) (dCons (dTup (dCons (dC (.str "close")) (dCons (dIxV 3 (dC (.int 1))) dNil))) dNil))) (dVar 4))) (dCons (dVar 1) dNil))) dNil)))
  gNx)
  (gRet (dLst (dCons (dTup (dCons (dVar 4) (dCons (dVar 1) dNil))) dNil))))))))))))
noncomputable def F__law_due : List PyData → Res := runF ["_law_rest", "_law_place", "_law_text", "_law_thing", "_law_behind"].length ["_law_rest", "_law_place", "_law_text"].length g__law_due
theorem ok__law_due {f : Addr} {fd : FuncData} (F : L2.Fun K "_law_due" "_law_due" s__law_due f fd) (gm : mg "_law_due" = some (.ref f)) (T : Bi mg)   : Fn P w K mg base C 1 "_law_due" 3 F__law_due := by
  have hb : Binds K fd ["_law_rest", "_law_place", "_law_text"] [] := F.binds fun _ _ _ _ _ _ us hl => match us, hl with | [_, _, _], _ => rfl
  refine fn_mk gm F.kp hb ?_
  refine fn_ok (k := 0) (N := ["_law_rest", "_law_place", "_law_text", "_law_thing", "_law_behind"]) (ps := ["_law_rest", "_law_place", "_law_text"]) (g := g__law_due) F sc__law_due fun cdv A outer s H E hr => ?_
  have nd := sc__law_due.nd
  have hu := hr.units
  have hu1 := hu_of hr
  have tk : Takes (cxOf (L2.CX P w) P w K mg base ["_law_rest", "_law_place", "_law_text", "_law_thing", "_law_behind"] "_law_due" (defScope s__law_due) f cdv A outer s H E) (WF E) := takes_of rfl rfl rfl rfl
  exact (b_cons (s_if (t_eq hu (d_lenV 0 T.len) d_int)
  (b_one (s_ret (s_lst a_nil len_nil)))
  b_nil)
  (b_cons (s_set 3 nd ((d_ixV 0 d_int)).dat)
  (b_cons (s_set 4 nd (s_slice (d_var 0) (o_some d_int) o_none))
  (b_cons (s_if ((w_or (t_eq hu (d_ixV 3 d_int) d_str) (w_or1 (t_eq hu (d_ixV 3 d_int) d_str)))).t
  (b_cons (s_if ((w_or (t_eq hu (d_var 1) (d_lenV 2 T.len)) (w_or1 ((w_and (t_eq hu (d_ixV 3 d_int) d_str) (w_and1 (t_ne hu (d_ixV 3 d_int) (d_ixV 2 (d_var 1)))))).t))).t
  (b_one (s_ret (s_lst a_nil len_nil)))
  b_nil)
  (b_one (s_ret (s_lst (a_cons (d_tup (a_cons (d_var 4) (a_cons ((s_add (d_var 1) d_int)).frz a_nil)) (len_cons (len_cons len_nil))) a_nil) (len_cons len_nil)))))
  b_nil)
  (b_cons (s_if (t_eq hu (d_ixV 3 d_int) d_str)
  (b_one (s_ret (s_lst (a_cons (d_tup (a_cons ((s_add (d_tup (a_cons (d_ixV 3 d_int) (a_cons (d_ixV 3 d_int) a_nil)) (len_cons (len_cons len_nil))) (d_var 4))).frz (a_cons (d_var 1) a_nil)) (len_cons (len_cons len_nil))) a_nil) (len_cons len_nil))))
  b_nil)
  (b_cons (s_if (t_eq hu (d_ixV 3 d_int) d_str)
  (b_one (s_ret (s_lst (a_cons (d_tup (a_cons ((s_add (d_tup (a_cons (d_ixV 3 d_int) a_nil) (len_cons len_nil)) (d_var 4))).frz (a_cons (d_var 1) a_nil)) (len_cons (len_cons len_nil))) (a_cons (d_tup (a_cons ((s_add (d_tup (a_cons (d_ixV 3 d_int) a_nil) (len_cons len_nil)) (d_var 4))).frz (a_cons (d_var 1) a_nil)) (len_cons (len_cons len_nil))) a_nil)) (len_cons (len_cons len_nil)))))
  b_nil)
  (b_cons (s_if (t_eq hu (d_ixV 3 d_int) d_str)
  (b_one (s_ret (s_lst (a_cons (d_tup (a_cons ((s_add (d_tup (a_cons (d_ixV 3 d_int) (a_cons (d_var 3) a_nil)) (len_cons (len_cons len_nil))) (d_var 4))).frz (a_cons (d_var 1) a_nil)) (len_cons (len_cons len_nil))) (a_cons (d_tup (a_cons (d_var 4) (a_cons (d_var 1) a_nil)) (len_cons (len_cons len_nil))) a_nil)) (len_cons (len_cons len_nil)))))
  b_nil)
  (b_cons (s_if (t_eq hu (d_ixV 3 d_int) d_str)
  (b_one (s_ret (s_lst (a_cons (d_tup (a_cons (d_var 4) (a_cons (d_var 1) a_nil)) (len_cons (len_cons len_nil))) (a_cons (d_tup (a_cons ((s_add (d_tup (a_cons (d_ixV 3 d_int) (a_cons (d_var 3) a_nil)) (len_cons (len_cons len_nil))) (d_var 4))).frz (a_cons (d_var 1) a_nil)) (len_cons (len_cons len_nil))) a_nil)) (len_cons (len_cons len_nil)))))
  b_nil)
  (b_cons (s_if (t_eq hu (d_ixV 3 d_int) d_str)
  (b_one (s_ret (s_lst (a_cons (d_tup (a_cons ((s_add (d_tup (a_cons (d_ixV 3 d_int) (a_cons (d_tup (a_cons d_str (a_cons (d_ixV 3 d_int) a_nil)) (len_cons (len_cons len_nil))) a_nil)) (len_cons (len_cons len_nil))) (d_var 4))).frz (a_cons (d_var 1) a_nil)) (len_cons (len_cons len_nil))) a_nil) (len_cons len_nil))))
  b_nil)
  (b_one (s_ret (s_lst (a_cons (d_tup (a_cons (d_var 4) (a_cons (d_var 1) a_nil)) (len_cons (len_cons len_nil))) a_nil) (len_cons len_nil)))))))))))))

/-! ### _law_bits -/
abbrev s__law_bits : Stmt := topS 13
theorem sc__law_bits : FnScope ["_law_script", "_law_bits_here", "_law_k", "_law_cell", "_law_turn"] ["_law_script"] (defScope s__law_bits) := ⟨rfl, rfl, rfl, by decide +kernel, rfl, by decide +kernel, by decide +kernel⟩
noncomputable def b__law_bits_0 : En → Out Fl :=
  (gSeq (gApp 1 (op2 fMod (dVar 3) (dC (.int 2))))
  (gSet 3 (GM.dat (op2 fDiv (dVar 3) (dC (.int 2))))))
noncomputable def b__law_bits_1 : En → Out Fl :=
  (gSeq (gSet 3 (sCall F__law_cell_at (dCons (dVar 0) (dCons (frz (op2 fAdd (dC (.int 18)) (dVar 2))) dNil))))
  (gFor (iRngD (dC (.int 8))) (gtN 4) b__law_bits_0))
noncomputable def g__law_bits : En → Out Fl :=
  (gSeq (gSet 1 (dLst dNil))
  (gSeq (gFor (iRngD (dC (.int 5))) (gtN 2) b__law_bits_1)
  (gRetV 1)))
noncomputable def F__law_bits : List PyData → Res := runF ["_law_script", "_law_bits_here", "_law_k", "_law_cell", "_law_turn"].length ["_law_script"].length g__law_bits
theorem ok__law_bits {f : Addr} {fd : FuncData} (F : L2.Fun K "_law_bits" "_law_bits" s__law_bits f fd) (gm : mg "_law_bits" = some (.ref f)) (T : Bi mg) (c__law_cell_at : Fn P w K mg base C 1 "_law_cell_at" 2 F__law_cell_at)  : Fn P w K mg base C 2 "_law_bits" 1 F__law_bits := by
  have hb : Binds K fd ["_law_script"] [] := F.binds fun _ _ _ _ _ _ us hl => match us, hl with | [_], _ => rfl
  refine fn_mk gm F.kp hb ?_
  refine fn_ok (k := 1) (N := ["_law_script", "_law_bits_here", "_law_k", "_law_cell", "_law_turn"]) (ps := ["_law_script"]) (g := g__law_bits) F sc__law_bits fun cdv A outer s H E hr => ?_
  have nd := sc__law_bits.nd
  have hu := hr.units
  have hu1 := hu_of hr
  have tk : Takes (cxOf (L2.CX P w) P w K mg base ["_law_script", "_law_bits_here", "_law_k", "_law_cell", "_law_turn"] "_law_bits" (defScope s__law_bits) f cdv A outer s H E) (WF E) := takes_of rfl rfl rfl rfl
  have hp : PassesOwn (model P w) (cxOf (L2.CX P w) P w K mg base ["_law_script", "_law_bits_here", "_law_k", "_law_cell", "_law_turn"] "_law_bits" (defScope s__law_bits) f cdv A outer s H E).A (cxOf (L2.CX P w) P w K mg base ["_law_script", "_law_bits_here", "_law_k", "_law_cell", "_law_turn"] "_law_bits" (defScope s__law_bits) f cdv A outer s H E).env (cxOf (L2.CX P w) P w K mg base ["_law_script", "_law_bits_here", "_law_k", "_law_cell", "_law_turn"] "_law_bits" (defScope s__law_bits) f cdv A outer s H E).xe := passes_of (X := cxOf (L2.CX P w) P w K mg base ["_law_script", "_law_bits_here", "_law_k", "_law_cell", "_law_turn"] "_law_bits" (defScope s__law_bits) f cdv A outer s H E) rfl
  exact (b_cons (s_set 1 nd (s_lst a_nil len_nil))
  (b_cons (s_for hp rfl (i_range T.range d_int) (g_name 2 nd)
  (b_cons (s_set 3 nd (s_call c__law_cell_at hr tk (a_cons (d_var 0) (a_cons ((s_add d_int (d_var 2))).frz a_nil)) (len_cons (len_cons len_nil))))
  (b_one (s_for hp rfl (i_range T.range d_int) (g_name 4 nd)
  (b_cons (s_app 1 (d_mod (d_var 3) d_int))
  (b_one (s_set 3 nd ((d_fdiv (d_var 3) d_int)).dat)))))))
  (b_one (s_retV 1))))

/-! ### _law_is_state -/
abbrev s__law_is_state : Stmt := topS 14
theorem sc__law_is_state : FnScope ["_law_found"] ["_law_found"] (defScope s__law_is_state) := ⟨rfl, rfl, rfl, by decide +kernel, rfl, by decide +kernel, by decide +kernel⟩
noncomputable def g__law_is_state : En → Out Fl :=
  (gSeq (gIf (tOrD (tNotD (tVal (op1 (fIsi "tuple") (dVar 0)))) (tOrD (op2 fNe (dLenV 0) (dC (.int 2))) (tNotD (tVal (op1 (fIsi "tuple") (dIxV 0 (dC (.int 0))))))))
  (gRet (GM.dat (dC (.bool false))))
  gNx)
  (gRet (GM.dat (dAnd (op1 (fIsi "int") (dIxV 0 (dC (.int 1)))) (dNot (op1 (fIsi "bool") (dIxV 0 (dC (.int 1)))))))))
noncomputable def F__law_is_state : List PyData → Res := runF ["_law_found"].length ["_law_found"].length g__law_is_state
theorem ok__law_is_state {f : Addr} {fd : FuncData} (F : L2.Fun K "_law_is_state" "_law_is_state" s__law_is_state f fd) (gm : mg "_law_is_state" = some (.ref f)) (T : Bi mg)   : Fn P w K mg base C 1 "_law_is_state" 1 F__law_is_state := by
  have hb : Binds K fd ["_law_found"] [] := F.binds fun _ _ _ _ _ _ us hl => match us, hl with | [_], _ => rfl
  refine fn_mk gm F.kp hb ?_
  refine fn_ok (k := 0) (N := ["_law_found"]) (ps := ["_law_found"]) (g := g__law_is_state) F sc__law_is_state fun cdv A outer s H E hr => ?_
  have nd := sc__law_is_state.nd
  have hu := hr.units
  have hu1 := hu_of hr
  have tk : Takes (cxOf (L2.CX P w) P w K mg base ["_law_found"] "_law_is_state" (defScope s__law_is_state) f cdv A outer s H E) (WF E) := takes_of rfl rfl rfl rfl
  exact (b_cons (s_if ((w_or (t_not (t_valD (d_isi isi_tuple T.isinstance T.tuple boot_tuple (d_var 0)))) (w_or (t_ne hu (d_lenV 0 T.len) d_int) (w_or1 (t_not (t_valD (d_isi isi_tuple T.isinstance T.tuple boot_tuple (d_ixV 0 d_int)))))))).t
  (b_one (s_ret (d_bl).dat))
  b_nil)
  (b_one (s_ret ((d_and (d_isi isi_int T.isinstance T.int boot_int (d_ixV 0 d_int)) (d_one (d_not (d_isi isi_bool T.isinstance T.bool boot_bool (d_ixV 0 d_int)))))).dat)))

/-! ### law -/
abbrev s_law : Stmt := topS 15
theorem sc_law : FnScope ["_law_script", "_law_head", "_law_pattern", "_law_turns", "_law_text", "_law_cell", "_law_k", "_law_bits_here", "_law_state", "_law_bit", "_law_due_here", "_law_found", "_law_last", "_law_one"] ["_law_script"] (defScope s_law) := ⟨rfl, rfl, rfl, by decide +kernel, rfl, by decide +kernel, by decide +kernel⟩
noncomputable def b_law_0 : En → Out Fl :=
  (gSeq (gSet 4 (op2 fAdd (dVar 4) (frz (sCall F__law_sign (dCons (op2 fIx (frz (dLst (dCons (dVar 1) (dCons (op2 fDiv (dVar 1) (dC (.int 95))) (dCons (dVar 1) (dCons (op2 fDiv (dVar 5) (dC (.int 4))) dNil)))))) (op2 fMod (dVar 5) (dC (.int 4)))) dNil)))))
  (gSet 5 (GM.dat (op2 fDiv (dVar 5) (dC (.int 4))))))
noncomputable def b_law_1 : En → Out Fl :=
  (gSeq (gSet 10 (sCall F__law_due (dCons (dIxV 8 (dC (.int 0))) (dCons (dIxV 8 (dC (.int 1))) (dCons (dVar 4) dNil)))))
  (gSeq (gSet 11 (sCall F_onward (dCons (dVar 8) (dCons (dVar 4) dNil))))
  (gSeq (gSet 12 (sCall F_is_end (dCons (dVar 8) (dCons (dVar 4) dNil))))
  (gSeq (gIf (tOrD (tNotD (tVal (op1 (fIsi "list") (dVar 11)))) (tOrD (op2 fNe (frz (dLc (iLst (dVar 11)) (gtN 13) (tNotD (tVal (frz (sCall F__law_is_state (dCons (dVar 13) dNil))))) (dVar 13) [13])) (frz (dLst dNil))) (op2 fNe (dVar 11) (dVar 10))))
  (gRet (GM.dat (dC (.bool false))))
  gNx)
  (gSeq (gIf (tOrD (tNotD (tVal (op1 (fIsi "bool") (dVar 12)))) (op2 fNe (dVar 12) (dAnd (op2 (boolD fEq) (op1 fLen (dIxV 8 (dC (.int 0)))) (dC (.int 0))) (op2 (boolD fEq) (dIxV 8 (dC (.int 1))) (dLenV 4)))))
  (gRet (GM.dat (dC (.bool false))))
  gNx)
  (gSeq (gIf (op2 fEq (dLenV 10) (dC (.int 0)))
  (gRet (GM.dat (dC (.bool true))))
  gNx)
  (gSet 8 (GM.dat (dIxV 10 (op2 fMod (dVar 9) (dLenV 10)))))))))))
noncomputable def t_law_10 : En → Out Fl :=
  (gRet (GM.dat (dC (.bool true))))
noncomputable def t_law_9 : En → Out Fl :=
  (gSeq (gFor (iLst (dVar 7)) (gtN 9) b_law_1)
  t_law_10)
noncomputable def t_law_8 : En → Out Fl :=
  (gSeq (gIf (tOrD (tNotD (tVal (frz (sCall F__law_is_state (dCons (dVar 8) dNil))))) (op2 fNe (dVar 8) (dTup (dCons (dTup (dCons (dVar 2) dNil)) (dCons (dC (.int 0)) dNil)))))
  (gRet (GM.dat (dC (.bool false))))
  gNx)
  t_law_9)
noncomputable def t_law_7 : En → Out Fl :=
  (gSeq (gSet 8 (sCall F_first_state (dCons (dVar 2) dNil)))
  t_law_8)
noncomputable def t_law_6 : En → Out Fl :=
  (gSeq (gSet 7 (sCall F__law_bits (dCons (dVar 0) dNil)))
  t_law_7)
noncomputable def t_law_5 : En → Out Fl :=
  (gSeq (gFor (iRngD (op2 fMod (dVar 3) (dC (.int 10)))) (gtN 6) b_law_0)
  t_law_6)
noncomputable def t_law_4 : En → Out Fl :=
  (gSeq (gSet 5 (GM.dat (op2 fDiv (dVar 3) (dC (.int 10)))))
  t_law_5)
noncomputable def t_law_3 : En → Out Fl :=
  (gSeq (gSet 4 (GM.dat (dC (.str ""))))
  t_law_4)
noncomputable def t_law_2 : En → Out Fl :=
  (gSeq (gSet 3 (sCall F__law_cell_at (dCons (dVar 0) (dCons (dC (.int 1)) dNil))))
  t_law_3)
noncomputable def t_law_1 : En → Out Fl :=
  (gSeq (gSet 2 (sCall F__law_made (dCons (frz (dSl (dVar 0) (oSome (dC (.int 2))) (oSome (dC (.int 18))))) (dCons (dVar 1) dNil))))
  t_law_2)
noncomputable def t_law_0 : En → Out Fl :=
  (gSeq (gSet 1 (sCall F__law_cell_at (dCons (dVar 0) (dCons (dC (.int 0)) dNil))))
  t_law_1)
noncomputable def g_law : En → Out Fl :=
  t_law_0
noncomputable def F_law : List PyData → Res := runF ["_law_script", "_law_head", "_law_pattern", "_law_turns", "_law_text", "_law_cell", "_law_k", "_law_bits_here", "_law_state", "_law_bit", "_law_due_here", "_law_found", "_law_last", "_law_one"].length ["_law_script"].length g_law
theorem fo_law {f : Addr} {fd : FuncData} (F : L2.Fun K "law" "law" s_law f fd) (T : Bi mg) (c__law_bits : Fn P w K mg base C 2 "_law_bits" 1 F__law_bits) (c__law_cell_at : Fn P w K mg base C 1 "_law_cell_at" 2 F__law_cell_at) (c__law_due : Fn P w K mg base C 1 "_law_due" 3 F__law_due) (c__law_is_state : Fn P w K mg base C 1 "_law_is_state" 1 F__law_is_state) (c__law_made : Fn P w K mg base C 3 "_law_made" 2 F__law_made) (c__law_sign : Fn P w K mg base C 1 "_law_sign" 1 F__law_sign) (c_first_state : Fn P w K mg base C 1 "first_state" 1 F_first_state) (c_is_end : Fn P w K mg base C 1 "is_end" 2 F_is_end) (c_onward : Fn P w K mg base C 2 "onward" 2 F_onward)  : FnOk P w K mg base (L2.CX P w) 4 f fd ["_law_script"] (spD K C ["_law_script"].length F_law) := by
  refine fn_ok (k := 3) (N := ["_law_script", "_law_head", "_law_pattern", "_law_turns", "_law_text", "_law_cell", "_law_k", "_law_bits_here", "_law_state", "_law_bit", "_law_due_here", "_law_found", "_law_last", "_law_one"]) (ps := ["_law_script"]) (g := g_law) F sc_law fun cdv A outer s H E hr => ?_
  have nd := sc_law.nd
  have hu := hr.units
  have hu1 := hu_of hr
  have tk : Takes (cxOf (L2.CX P w) P w K mg base ["_law_script", "_law_head", "_law_pattern", "_law_turns", "_law_text", "_law_cell", "_law_k", "_law_bits_here", "_law_state", "_law_bit", "_law_due_here", "_law_found", "_law_last", "_law_one"] "law" (defScope s_law) f cdv A outer s H E) (WF E) := takes_of rfl rfl rfl rfl
  have hp : PassesOwn (model P w) (cxOf (L2.CX P w) P w K mg base ["_law_script", "_law_head", "_law_pattern", "_law_turns", "_law_text", "_law_cell", "_law_k", "_law_bits_here", "_law_state", "_law_bit", "_law_due_here", "_law_found", "_law_last", "_law_one"] "law" (defScope s_law) f cdv A outer s H E).A (cxOf (L2.CX P w) P w K mg base ["_law_script", "_law_head", "_law_pattern", "_law_turns", "_law_text", "_law_cell", "_law_k", "_law_bits_here", "_law_state", "_law_bit", "_law_due_here", "_law_found", "_law_last", "_law_one"] "law" (defScope s_law) f cdv A outer s H E).env (cxOf (L2.CX P w) P w K mg base ["_law_script", "_law_head", "_law_pattern", "_law_turns", "_law_text", "_law_cell", "_law_k", "_law_bits_here", "_law_state", "_law_bit", "_law_due_here", "_law_found", "_law_last", "_law_one"] "law" (defScope s_law) f cdv A outer s H E).xe := passes_of (X := cxOf (L2.CX P w) P w K mg base ["_law_script", "_law_head", "_law_pattern", "_law_turns", "_law_text", "_law_cell", "_law_k", "_law_bits_here", "_law_state", "_law_bit", "_law_due_here", "_law_found", "_law_last", "_law_one"] "law" (defScope s_law) f cdv A outer s H E) rfl
  exact (b_cons (s_set 1 nd (s_call c__law_cell_at hr tk (a_cons (d_var 0) (a_cons d_int a_nil)) (len_cons (len_cons len_nil))))
  (b_cons (s_set 2 nd (s_call c__law_made hr tk (a_cons ((s_slice (d_var 0) (o_some d_int) (o_some d_int))).frz (a_cons (d_var 1) a_nil)) (len_cons (len_cons len_nil))))
  (b_cons (s_set 3 nd (s_call c__law_cell_at hr tk (a_cons (d_var 0) (a_cons d_int a_nil)) (len_cons (len_cons len_nil))))
  (b_cons (s_set 4 nd (d_str).dat)
  (b_cons (s_set 5 nd ((d_fdiv (d_var 3) d_int)).dat)
  (b_cons (s_for hp rfl (i_range T.range (d_mod (d_var 3) d_int)) (g_name 6 nd)
  (b_cons (s_set 4 nd (s_add (d_var 4) ((s_call c__law_sign hr tk (a_cons (d_ix ((s_lst (a_cons (d_var 1) (a_cons (d_fdiv (d_var 1) d_int) (a_cons (d_var 1) (a_cons (d_fdiv (d_var 5) d_int) a_nil)))) (len_cons (len_cons (len_cons (len_cons len_nil)))))).frz (d_mod (d_var 5) d_int)) a_nil) (len_cons len_nil))).frz))
  (b_one (s_set 5 nd ((d_fdiv (d_var 5) d_int)).dat))))
  (b_cons (s_set 7 nd (s_call c__law_bits hr tk (a_cons (d_var 0) a_nil) (len_cons len_nil)))
  (b_cons (s_set 8 nd (s_call c_first_state hr tk (a_cons (d_var 2) a_nil) (len_cons len_nil)))
  (b_cons (s_if ((w_or (t_not (t_valD ((s_call c__law_is_state hr tk (a_cons (d_var 8) a_nil) (len_cons len_nil))).frz)) (w_or1 (t_ne hu (d_var 8) (d_tup (a_cons (d_tup (a_cons (d_var 2) a_nil) (len_cons len_nil)) (a_cons d_int a_nil)) (len_cons (len_cons len_nil))))))).t
  (b_one (s_ret (d_bl).dat))
  b_nil)
  (b_cons (s_for hp rfl (i_list (d_var 7)) (g_name 9 nd)
  (b_cons (s_set 10 nd (s_call c__law_due hr tk (a_cons (d_ixV 8 d_int) (a_cons (d_ixV 8 d_int) (a_cons (d_var 4) a_nil))) (len_cons (len_cons (len_cons len_nil)))))
  (b_cons (s_set 11 nd (s_call c_onward hr tk (a_cons (d_var 8) (a_cons (d_var 4) a_nil)) (len_cons (len_cons len_nil))))
  (b_cons (s_set 12 nd (s_call c_is_end hr tk (a_cons (d_var 8) (a_cons (d_var 4) a_nil)) (len_cons (len_cons len_nil))))
  (b_cons (s_if ((w_or (t_not (t_valD (d_isi isi_list T.isinstance T.list boot_list (d_var 11)))) (w_or (t_ne hu ((s_lc (own := [("_law_one", 13)]) rfl nd (i_list (d_var 11)) (blkOk_by (N := ["_law_script", "_law_head", "_law_pattern", "_law_turns", "_law_text", "_law_cell", "_law_k", "_law_bits_here", "_law_state", "_law_bit", "_law_due_here", "_law_found", "_law_last", "_law_one"]) (sc := defScope s_law) (by decide +kernel)) (fun _ _ _ _ _ => (g_name 13 nd)) (fun _ _ _ _ _ => (ts_one (t_not (t_valD ((s_call c__law_is_state hr takes0 (a_cons (d_var 13) a_nil) (len_cons len_nil))).frz)))) (fun _ _ _ _ _ => (d_var 13)))).frz ((s_lst a_nil len_nil)).frz) (w_or1 (t_ne hu (d_var 11) (d_var 10)))))).t
  (b_one (s_ret (d_bl).dat))
  b_nil)
  (b_cons (s_if ((w_or (t_not (t_valD (d_isi isi_bool T.isinstance T.bool boot_bool (d_var 12)))) (w_or1 (t_ne hu (d_var 12) (d_and (d_eq hu (d_len T.len (d_ixV 8 d_int)) d_int) (d_one (d_eq hu (d_ixV 8 d_int) (d_lenV 4 T.len)))))))).t
  (b_one (s_ret (d_bl).dat))
  b_nil)
  (b_cons (s_if (t_eq hu (d_lenV 10 T.len) d_int)
  (b_one (s_ret (d_bl).dat))
  b_nil)
  (b_one (s_set 8 nd ((d_ixV 10 (d_mod (d_var 9) (d_lenV 10 T.len)))).dat)))))))))
  (b_one (s_ret (d_bl).dat))))))))))))

end
theorem all_mk {P : Program} {w : World} {K : PySem.W.Frag} {h : Heap} {mg : Str → Option Value} {fa : Addr} (X : K.In h) (G : h.Ns mainGlobals mg) (hfa : mg "law" = some (.ref fa))
    {f0 : Addr} {od0 an0 : Option Addr} {sl0 : Array (Option Value)} {oc0 kV0 dc0 pm0 cd0 ct0 : Value}
    {f1 : Addr} {od1 an1 : Option Addr} {sl1 : Array (Option Value)} {oc1 kV1 dc1 pm1 cd1 ct1 : Value}
    {f2 : Addr} {od2 an2 : Option Addr} {sl2 : Array (Option Value)} {oc2 kV2 dc2 pm2 cd2 ct2 : Value}
    {f3 : Addr} {od3 an3 : Option Addr} {sl3 : Array (Option Value)} {oc3 kV3 dc3 pm3 cd3 ct3 : Value}
    {f4 : Addr} {od4 an4 : Option Addr} {sl4 : Array (Option Value)} {oc4 kV4 dc4 pm4 cd4 ct4 : Value}
    {f5 : Addr} {od5 an5 : Option Addr} {sl5 : Array (Option Value)} {oc5 kV5 dc5 pm5 cd5 ct5 : Value}
    {f6 : Addr} {od6 an6 : Option Addr} {sl6 : Array (Option Value)} {oc6 kV6 dc6 pm6 cd6 ct6 : Value}
    {f7 : Addr} {od7 an7 : Option Addr} {sl7 : Array (Option Value)} {oc7 kV7 dc7 pm7 cd7 ct7 : Value}
    {f8 : Addr} {od8 an8 : Option Addr} {sl8 : Array (Option Value)} {oc8 kV8 dc8 pm8 cd8 ct8 : Value}
    {f9 : Addr} {od9 an9 : Option Addr} {sl9 : Array (Option Value)} {oc9 kV9 dc9 pm9 cd9 ct9 : Value}
    {f10 : Addr} {od10 an10 : Option Addr} {sl10 : Array (Option Value)} {oc10 kV10 dc10 pm10 cd10 ct10 : Value}
    {f11 : Addr} {od11 an11 : Option Addr} {sl11 : Array (Option Value)} {oc11 kV11 dc11 pm11 cd11 ct11 : Value}
    {f12 : Addr} {od12 an12 : Option Addr} {sl12 : Array (Option Value)} {oc12 kV12 dc12 pm12 cd12 ct12 : Value}
    {f13 : Addr} {od13 an13 : Option Addr} {sl13 : Array (Option Value)} {oc13 kV13 dc13 pm13 cd13 ct13 : Value}
    (a0 : PySem.W.nsIn K mainGlobals "first_state" = some (some (.ref f0))) (l0 : K.lookup f0 = some ⟨oc0, od0, .func (PySem.W.fnOf "first_state" "first_state" (defArgs s_first_state) (defBody s_first_state) (defScope s_first_state) .none kV0 dc0 pm0 an0 cd0 ct0), sl0⟩) (c0 : PySem.W.codeIn K cd0 "first_state" = true) (k0 : PySem.W.keepIn K (.ref f0) = true)
    (a1 : PySem.W.nsIn K mainGlobals "is_end" = some (some (.ref f1))) (l1 : K.lookup f1 = some ⟨oc1, od1, .func (PySem.W.fnOf "is_end" "is_end" (defArgs s_is_end) (defBody s_is_end) (defScope s_is_end) .none kV1 dc1 pm1 an1 cd1 ct1), sl1⟩) (c1 : PySem.W.codeIn K cd1 "is_end" = true) (k1 : PySem.W.keepIn K (.ref f1) = true)
    (a2 : PySem.W.nsIn K mainGlobals "takes" = some (some (.ref f2))) (l2 : K.lookup f2 = some ⟨oc2, od2, .func (PySem.W.fnOf "takes" "takes" (defArgs s_takes) (defBody s_takes) (defScope s_takes) .none kV2 dc2 pm2 an2 cd2 ct2), sl2⟩) (c2 : PySem.W.codeIn K cd2 "takes" = true) (k2 : PySem.W.keepIn K (.ref f2) = true)
    (a3 : PySem.W.nsIn K mainGlobals "onward" = some (some (.ref f3))) (l3 : K.lookup f3 = some ⟨oc3, od3, .func (PySem.W.fnOf "onward" "onward" (defArgs s_onward) (defBody s_onward) (defScope s_onward) .none kV3 dc3 pm3 an3 cd3 ct3), sl3⟩) (c3 : PySem.W.codeIn K cd3 "onward" = true) (k3 : PySem.W.keepIn K (.ref f3) = true)
    (a4 : PySem.W.nsIn K mainGlobals "_law_cell_at" = some (some (.ref f4))) (l4 : K.lookup f4 = some ⟨oc4, od4, .func (PySem.W.fnOf "_law_cell_at" "_law_cell_at" (defArgs s__law_cell_at) (defBody s__law_cell_at) (defScope s__law_cell_at) .none kV4 dc4 pm4 an4 cd4 ct4), sl4⟩) (c4 : PySem.W.codeIn K cd4 "_law_cell_at" = true) (k4 : PySem.W.keepIn K (.ref f4) = true)
    (a5 : PySem.W.nsIn K mainGlobals "_law_sign" = some (some (.ref f5))) (l5 : K.lookup f5 = some ⟨oc5, od5, .func (PySem.W.fnOf "_law_sign" "_law_sign" (defArgs s__law_sign) (defBody s__law_sign) (defScope s__law_sign) .none kV5 dc5 pm5 an5 cd5 ct5), sl5⟩) (c5 : PySem.W.codeIn K cd5 "_law_sign" = true) (k5 : PySem.W.keepIn K (.ref f5) = true)
    (a6 : PySem.W.nsIn K mainGlobals "_law_leaf" = some (some (.ref f6))) (l6 : K.lookup f6 = some ⟨oc6, od6, .func (PySem.W.fnOf "_law_leaf" "_law_leaf" (defArgs s__law_leaf) (defBody s__law_leaf) (defScope s__law_leaf) .none kV6 dc6 pm6 an6 cd6 ct6), sl6⟩) (c6 : PySem.W.codeIn K cd6 "_law_leaf" = true) (k6 : PySem.W.keepIn K (.ref f6) = true)
    (a7 : PySem.W.nsIn K mainGlobals "_law_two" = some (some (.ref f7))) (l7 : K.lookup f7 = some ⟨oc7, od7, .func (PySem.W.fnOf "_law_two" "_law_two" (defArgs s__law_two) (defBody s__law_two) (defScope s__law_two) .none kV7 dc7 pm7 an7 cd7 ct7), sl7⟩) (c7 : PySem.W.codeIn K cd7 "_law_two" = true) (k7 : PySem.W.keepIn K (.ref f7) = true)
    (a8 : PySem.W.nsIn K mainGlobals "_law_round" = some (some (.ref f8))) (l8 : K.lookup f8 = some ⟨oc8, od8, .func (PySem.W.fnOf "_law_round" "_law_round" (defArgs s__law_round) (defBody s__law_round) (defScope s__law_round) .none kV8 dc8 pm8 an8 cd8 ct8), sl8⟩) (c8 : PySem.W.codeIn K cd8 "_law_round" = true) (k8 : PySem.W.keepIn K (.ref f8) = true)
    (a9 : PySem.W.nsIn K mainGlobals "_law_made" = some (some (.ref f9))) (l9 : K.lookup f9 = some ⟨oc9, od9, .func (PySem.W.fnOf "_law_made" "_law_made" (defArgs s__law_made) (defBody s__law_made) (defScope s__law_made) .none kV9 dc9 pm9 an9 cd9 ct9), sl9⟩) (c9 : PySem.W.codeIn K cd9 "_law_made" = true) (k9 : PySem.W.keepIn K (.ref f9) = true)
    (a10 : PySem.W.nsIn K mainGlobals "_law_due" = some (some (.ref f10))) (l10 : K.lookup f10 = some ⟨oc10, od10, .func (PySem.W.fnOf "_law_due" "_law_due" (defArgs s__law_due) (defBody s__law_due) (defScope s__law_due) .none kV10 dc10 pm10 an10 cd10 ct10), sl10⟩) (c10 : PySem.W.codeIn K cd10 "_law_due" = true) (k10 : PySem.W.keepIn K (.ref f10) = true)
    (a11 : PySem.W.nsIn K mainGlobals "_law_bits" = some (some (.ref f11))) (l11 : K.lookup f11 = some ⟨oc11, od11, .func (PySem.W.fnOf "_law_bits" "_law_bits" (defArgs s__law_bits) (defBody s__law_bits) (defScope s__law_bits) .none kV11 dc11 pm11 an11 cd11 ct11), sl11⟩) (c11 : PySem.W.codeIn K cd11 "_law_bits" = true) (k11 : PySem.W.keepIn K (.ref f11) = true)
    (a12 : PySem.W.nsIn K mainGlobals "_law_is_state" = some (some (.ref f12))) (l12 : K.lookup f12 = some ⟨oc12, od12, .func (PySem.W.fnOf "_law_is_state" "_law_is_state" (defArgs s__law_is_state) (defBody s__law_is_state) (defScope s__law_is_state) .none kV12 dc12 pm12 an12 cd12 ct12), sl12⟩) (c12 : PySem.W.codeIn K cd12 "_law_is_state" = true) (k12 : PySem.W.keepIn K (.ref f12) = true)
    (a13 : PySem.W.nsIn K mainGlobals "law" = some (some (.ref f13))) (l13 : K.lookup f13 = some ⟨oc13, od13, .func (PySem.W.fnOf "law" "law" (defArgs s_law) (defBody s_law) (defScope s_law) .none kV13 dc13 pm13 an13 cd13 ct13), sl13⟩) (c13 : PySem.W.codeIn K cd13 "law" = true) (k13 : PySem.W.keepIn K (.ref f13) = true)
    (z_len : PySem.W.nsIn K mainGlobals "len" = some none) (z_isinstance : PySem.W.nsIn K mainGlobals "isinstance" = some none) (z_reversed : PySem.W.nsIn K mainGlobals "reversed" = some none) (z_range : PySem.W.nsIn K mainGlobals "range" = some none) (z_zip : PySem.W.nsIn K mainGlobals "zip" = some none) (z_bool : PySem.W.nsIn K mainGlobals "bool" = some none) (z_int : PySem.W.nsIn K mainGlobals "int" = some none) (z_str : PySem.W.nsIn K mainGlobals "str" = some none) (z_tuple : PySem.W.nsIn K mainGlobals "tuple" = some none) (z_list : PySem.W.nsIn K mainGlobals "list" = some none) (z_dict : PySem.W.nsIn K mainGlobals "dict" = some none) (z_set : PySem.W.nsIn K mainGlobals "set" = some none)  :
    ∃ fd : FuncData, (∀ (s : Shared) (v : Value), BindsTo s fd ⟨[v], []⟩ [("_law_script", v)]) ∧ ∀ base : Heap, K.In base → base.Ns mainGlobals mg → FnOk P w K mg base (L2.CX P w) 4 fa fd ["_law_script"] (spD K (fun _ => 0) 1 F_law) := by
  have e := hfa.symm.trans (PySem.W.mg_of X G a13)
  cases e
  have T : Bi mg := ⟨PySem.W.mg_none_of X G z_len, PySem.W.mg_none_of X G z_isinstance, PySem.W.mg_none_of X G z_reversed, PySem.W.mg_none_of X G z_range, PySem.W.mg_none_of X G z_zip, PySem.W.mg_none_of X G z_bool, PySem.W.mg_none_of X G z_int, PySem.W.mg_none_of X G z_str, PySem.W.mg_none_of X G z_tuple, PySem.W.mg_none_of X G z_list, PySem.W.mg_none_of X G z_dict, PySem.W.mg_none_of X G z_set⟩
  have F0 := fun_mk (st := s_first_state) l0 c0 k0
  have F1 := fun_mk (st := s_is_end) l1 c1 k1
  have F2 := fun_mk (st := s_takes) l2 c2 k2
  have F3 := fun_mk (st := s_onward) l3 c3 k3
  have F4 := fun_mk (st := s__law_cell_at) l4 c4 k4
  have F5 := fun_mk (st := s__law_sign) l5 c5 k5
  have F6 := fun_mk (st := s__law_leaf) l6 c6 k6
  have F7 := fun_mk (st := s__law_two) l7 c7 k7
  have F8 := fun_mk (st := s__law_round) l8 c8 k8
  have F9 := fun_mk (st := s__law_made) l9 c9 k9
  have F10 := fun_mk (st := s__law_due) l10 c10 k10
  have F11 := fun_mk (st := s__law_bits) l11 c11 k11
  have F12 := fun_mk (st := s__law_is_state) l12 c12 k12
  have F13 := fun_mk (st := s_law) l13 c13 k13
  refine ⟨PySem.W.fnOf "law" "law" (defArgs s_law) (defBody s_law) (defScope s_law) .none kV13 dc13 pm13 an13 cd13 ct13, fun s v => .of_eq rfl, fun base _ _ => ?_⟩
  have q_first_state : Fn P w K mg base (fun _ => 0) 1 "first_state" 1 F_first_state := ok_first_state F0 (PySem.W.mg_of X G a0) T 
  have q_is_end : Fn P w K mg base (fun _ => 0) 1 "is_end" 2 F_is_end := ok_is_end F1 (PySem.W.mg_of X G a1) T 
  have q_takes : Fn P w K mg base (fun _ => 0) 1 "takes" 3 F_takes := ok_takes F2 (PySem.W.mg_of X G a2) T 
  have q_onward : Fn P w K mg base (fun _ => 0) 2 "onward" 2 F_onward := ok_onward F3 (PySem.W.mg_of X G a3) T q_takes
  have q__law_cell_at : Fn P w K mg base (fun _ => 0) 1 "_law_cell_at" 2 F__law_cell_at := ok__law_cell_at F4 (PySem.W.mg_of X G a4) T 
  have q__law_sign : Fn P w K mg base (fun _ => 0) 1 "_law_sign" 1 F__law_sign := ok__law_sign F5 (PySem.W.mg_of X G a5) T 
  have q__law_leaf : Fn P w K mg base (fun _ => 0) 2 "_law_leaf" 2 F__law_leaf := ok__law_leaf F6 (PySem.W.mg_of X G a6) T q__law_sign
  have q__law_two : Fn P w K mg base (fun _ => 0) 1 "_law_two" 3 F__law_two := ok__law_two F7 (PySem.W.mg_of X G a7) T 
  have q__law_round : Fn P w K mg base (fun _ => 0) 2 "_law_round" 3 F__law_round := ok__law_round F8 (PySem.W.mg_of X G a8) T q__law_sign
  have q__law_made : Fn P w K mg base (fun _ => 0) 3 "_law_made" 2 F__law_made := ok__law_made F9 (PySem.W.mg_of X G a9) T q__law_leaf q__law_round q__law_two
  have q__law_due : Fn P w K mg base (fun _ => 0) 1 "_law_due" 3 F__law_due := ok__law_due F10 (PySem.W.mg_of X G a10) T 
  have q__law_bits : Fn P w K mg base (fun _ => 0) 2 "_law_bits" 1 F__law_bits := ok__law_bits F11 (PySem.W.mg_of X G a11) T q__law_cell_at
  have q__law_is_state : Fn P w K mg base (fun _ => 0) 1 "_law_is_state" 1 F__law_is_state := ok__law_is_state F12 (PySem.W.mg_of X G a12) T 
  exact fo_law F13 T q__law_bits q__law_cell_at q__law_due q__law_is_state q__law_made q__law_sign q_first_state q_is_end q_onward
end GM

namespace GM
open PySem PySem.Spec L2
/-! ### the words of the forms, apart -/
@[simp] theorem ne_sign_any : (Str.ofString "sign" = Str.ofString "any") = False := eq_false (by decide +kernel)
@[simp] theorem ne_sign_none : (Str.ofString "sign" = Str.ofString "none") = False := eq_false (by decide +kernel)
@[simp] theorem ne_sign_row : (Str.ofString "sign" = Str.ofString "row") = False := eq_false (by decide +kernel)
@[simp] theorem ne_sign_or : (Str.ofString "sign" = Str.ofString "or") = False := eq_false (by decide +kernel)
@[simp] theorem ne_sign_more : (Str.ofString "sign" = Str.ofString "more") = False := eq_false (by decide +kernel)
@[simp] theorem ne_sign_less : (Str.ofString "sign" = Str.ofString "less") = False := eq_false (by decide +kernel)
@[simp] theorem ne_sign_group : (Str.ofString "sign" = Str.ofString "group") = False := eq_false (by decide +kernel)
@[simp] theorem ne_sign_close : (Str.ofString "sign" = Str.ofString "close") = False := eq_false (by decide +kernel)
@[simp] theorem ne_any_sign : (Str.ofString "any" = Str.ofString "sign") = False := eq_false (by decide +kernel)
@[simp] theorem ne_any_none : (Str.ofString "any" = Str.ofString "none") = False := eq_false (by decide +kernel)
@[simp] theorem ne_any_row : (Str.ofString "any" = Str.ofString "row") = False := eq_false (by decide +kernel)
@[simp] theorem ne_any_or : (Str.ofString "any" = Str.ofString "or") = False := eq_false (by decide +kernel)
@[simp] theorem ne_any_more : (Str.ofString "any" = Str.ofString "more") = False := eq_false (by decide +kernel)
@[simp] theorem ne_any_less : (Str.ofString "any" = Str.ofString "less") = False := eq_false (by decide +kernel)
@[simp] theorem ne_any_group : (Str.ofString "any" = Str.ofString "group") = False := eq_false (by decide +kernel)
@[simp] theorem ne_any_close : (Str.ofString "any" = Str.ofString "close") = False := eq_false (by decide +kernel)
@[simp] theorem ne_none_sign : (Str.ofString "none" = Str.ofString "sign") = False := eq_false (by decide +kernel)
@[simp] theorem ne_none_any : (Str.ofString "none" = Str.ofString "any") = False := eq_false (by decide +kernel)
@[simp] theorem ne_none_row : (Str.ofString "none" = Str.ofString "row") = False := eq_false (by decide +kernel)
@[simp] theorem ne_none_or : (Str.ofString "none" = Str.ofString "or") = False := eq_false (by decide +kernel)
@[simp] theorem ne_none_more : (Str.ofString "none" = Str.ofString "more") = False := eq_false (by decide +kernel)
@[simp] theorem ne_none_less : (Str.ofString "none" = Str.ofString "less") = False := eq_false (by decide +kernel)
@[simp] theorem ne_none_group : (Str.ofString "none" = Str.ofString "group") = False := eq_false (by decide +kernel)
@[simp] theorem ne_none_close : (Str.ofString "none" = Str.ofString "close") = False := eq_false (by decide +kernel)
@[simp] theorem ne_row_sign : (Str.ofString "row" = Str.ofString "sign") = False := eq_false (by decide +kernel)
@[simp] theorem ne_row_any : (Str.ofString "row" = Str.ofString "any") = False := eq_false (by decide +kernel)
@[simp] theorem ne_row_none : (Str.ofString "row" = Str.ofString "none") = False := eq_false (by decide +kernel)
@[simp] theorem ne_row_or : (Str.ofString "row" = Str.ofString "or") = False := eq_false (by decide +kernel)
@[simp] theorem ne_row_more : (Str.ofString "row" = Str.ofString "more") = False := eq_false (by decide +kernel)
@[simp] theorem ne_row_less : (Str.ofString "row" = Str.ofString "less") = False := eq_false (by decide +kernel)
@[simp] theorem ne_row_group : (Str.ofString "row" = Str.ofString "group") = False := eq_false (by decide +kernel)
@[simp] theorem ne_row_close : (Str.ofString "row" = Str.ofString "close") = False := eq_false (by decide +kernel)
@[simp] theorem ne_or_sign : (Str.ofString "or" = Str.ofString "sign") = False := eq_false (by decide +kernel)
@[simp] theorem ne_or_any : (Str.ofString "or" = Str.ofString "any") = False := eq_false (by decide +kernel)
@[simp] theorem ne_or_none : (Str.ofString "or" = Str.ofString "none") = False := eq_false (by decide +kernel)
@[simp] theorem ne_or_row : (Str.ofString "or" = Str.ofString "row") = False := eq_false (by decide +kernel)
@[simp] theorem ne_or_more : (Str.ofString "or" = Str.ofString "more") = False := eq_false (by decide +kernel)
@[simp] theorem ne_or_less : (Str.ofString "or" = Str.ofString "less") = False := eq_false (by decide +kernel)
@[simp] theorem ne_or_group : (Str.ofString "or" = Str.ofString "group") = False := eq_false (by decide +kernel)
@[simp] theorem ne_or_close : (Str.ofString "or" = Str.ofString "close") = False := eq_false (by decide +kernel)
@[simp] theorem ne_more_sign : (Str.ofString "more" = Str.ofString "sign") = False := eq_false (by decide +kernel)
@[simp] theorem ne_more_any : (Str.ofString "more" = Str.ofString "any") = False := eq_false (by decide +kernel)
@[simp] theorem ne_more_none : (Str.ofString "more" = Str.ofString "none") = False := eq_false (by decide +kernel)
@[simp] theorem ne_more_row : (Str.ofString "more" = Str.ofString "row") = False := eq_false (by decide +kernel)
@[simp] theorem ne_more_or : (Str.ofString "more" = Str.ofString "or") = False := eq_false (by decide +kernel)
@[simp] theorem ne_more_less : (Str.ofString "more" = Str.ofString "less") = False := eq_false (by decide +kernel)
@[simp] theorem ne_more_group : (Str.ofString "more" = Str.ofString "group") = False := eq_false (by decide +kernel)
@[simp] theorem ne_more_close : (Str.ofString "more" = Str.ofString "close") = False := eq_false (by decide +kernel)
@[simp] theorem ne_less_sign : (Str.ofString "less" = Str.ofString "sign") = False := eq_false (by decide +kernel)
@[simp] theorem ne_less_any : (Str.ofString "less" = Str.ofString "any") = False := eq_false (by decide +kernel)
@[simp] theorem ne_less_none : (Str.ofString "less" = Str.ofString "none") = False := eq_false (by decide +kernel)
@[simp] theorem ne_less_row : (Str.ofString "less" = Str.ofString "row") = False := eq_false (by decide +kernel)
@[simp] theorem ne_less_or : (Str.ofString "less" = Str.ofString "or") = False := eq_false (by decide +kernel)
@[simp] theorem ne_less_more : (Str.ofString "less" = Str.ofString "more") = False := eq_false (by decide +kernel)
@[simp] theorem ne_less_group : (Str.ofString "less" = Str.ofString "group") = False := eq_false (by decide +kernel)
@[simp] theorem ne_less_close : (Str.ofString "less" = Str.ofString "close") = False := eq_false (by decide +kernel)
@[simp] theorem ne_group_sign : (Str.ofString "group" = Str.ofString "sign") = False := eq_false (by decide +kernel)
@[simp] theorem ne_group_any : (Str.ofString "group" = Str.ofString "any") = False := eq_false (by decide +kernel)
@[simp] theorem ne_group_none : (Str.ofString "group" = Str.ofString "none") = False := eq_false (by decide +kernel)
@[simp] theorem ne_group_row : (Str.ofString "group" = Str.ofString "row") = False := eq_false (by decide +kernel)
@[simp] theorem ne_group_or : (Str.ofString "group" = Str.ofString "or") = False := eq_false (by decide +kernel)
@[simp] theorem ne_group_more : (Str.ofString "group" = Str.ofString "more") = False := eq_false (by decide +kernel)
@[simp] theorem ne_group_less : (Str.ofString "group" = Str.ofString "less") = False := eq_false (by decide +kernel)
@[simp] theorem ne_group_close : (Str.ofString "group" = Str.ofString "close") = False := eq_false (by decide +kernel)
@[simp] theorem ne_close_sign : (Str.ofString "close" = Str.ofString "sign") = False := eq_false (by decide +kernel)
@[simp] theorem ne_close_any : (Str.ofString "close" = Str.ofString "any") = False := eq_false (by decide +kernel)
@[simp] theorem ne_close_none : (Str.ofString "close" = Str.ofString "none") = False := eq_false (by decide +kernel)
@[simp] theorem ne_close_row : (Str.ofString "close" = Str.ofString "row") = False := eq_false (by decide +kernel)
@[simp] theorem ne_close_or : (Str.ofString "close" = Str.ofString "or") = False := eq_false (by decide +kernel)
@[simp] theorem ne_close_more : (Str.ofString "close" = Str.ofString "more") = False := eq_false (by decide +kernel)
@[simp] theorem ne_close_less : (Str.ofString "close" = Str.ofString "less") = False := eq_false (by decide +kernel)
@[simp] theorem ne_close_group : (Str.ofString "close" = Str.ofString "group") = False := eq_false (by decide +kernel)
/-! ### patterns -/
inductive Pat where
  | sign (s : Str) | any | non | row (p q : Pat) | or (p q : Pat) | more (p : Pat) | less (p : Pat) | group (n : Int) (p : Pat)
def enc : Pat → PyData
  | .sign s => .tuple [.str "sign", .str s]
  | .any => .tuple [.str "any"]
  | .non => .tuple [.str "none"]
  | .row p q => .tuple [.str "row", enc p, enc q]
  | .or p q => .tuple [.str "or", enc p, enc q]
  | .more p => .tuple [.str "more", enc p]
  | .less p => .tuple [.str "less", enc p]
  | .group n p => .tuple [.str "group", .int n, enc p]
def kids : Pat → List Pat
  | .row p q => [p, q]
  | .or p q => [p, q]
  | .more p => [p]
  | .less p => [p]
  | .group _ p => [p]
  | _ => []
def Pat.parts : Pat → List Pat
  | .row p q => .row p q :: (p.parts ++ q.parts)
  | .or p q => .or p q :: (p.parts ++ q.parts)
  | .more p => .more p :: p.parts
  | .less p => .less p :: p.parts
  | .group n p => .group n p :: p.parts
  | p => [p]
/-- may take nothing -/
def Pat.nul : Pat → Bool
  | .non => true
  | .more _ => true
  | .less _ => true
  | .row p q => p.nul && q.nul
  | .or p q => p.nul || q.nul
  | .group _ p => p.nul
  | _ => false
theorem szl : sizeLine = 16777216 := sizeLine_eq
/-- how deep a pattern's tuples stand -/
def Pat.dep : Pat → Nat
  | .row p q => max p.dep q.dep + 1
  | .or p q => max p.dep q.dep + 1
  | .more p => p.dep + 1
  | .less p => p.dep + 1
  | .group _ p => p.dep + 1
  | _ => 1
theorem dep_pos : ∀ p : Pat, 0 < p.dep := by
  intro p
  cases p <;> simp [Pat.dep]
/-- its signs are texts that may be compared -/
def Pat.good : Pat → Bool
  | .sign s => PyData.strOk s
  | .row p q => p.good && q.good
  | .or p q => p.good && q.good
  | .more p => p.good
  | .less p => p.good
  | .group _ p => p.good
  | _ => true
theorem parts_pos : ∀ p : Pat, 0 < p.parts.length := by
  intro p
  cases p <;> simp [Pat.parts]
theorem parts_kids : ∀ p : Pat, p.parts = p :: (kids p).flatMap Pat.parts := by
  intro p
  cases p <;> simp [Pat.parts, kids]
theorem strOk_words : PyData.strOk "sign" = true ∧ PyData.strOk "any" = true ∧ PyData.strOk "none" = true ∧ PyData.strOk "row" = true ∧ PyData.strOk "or" = true ∧ PyData.strOk "more" = true ∧ PyData.strOk "less" = true ∧ PyData.strOk "group" = true ∧ PyData.strOk "close" = true := by decide +kernel
theorem enc_lay : ∀ p : Pat, p.good = true → (enc p).canLay0 = true := by
  obtain ⟨w1, w2, w3, w4, w5, w6, w7, w8, w9⟩ := strOk_words
  intro p
  induction p with
  | sign s => intro h; simp [enc, PyData.canLay0, PyData.canLayAll0, w1]; exact h
  | any => intro h; simp [enc, PyData.canLay0, PyData.canLayAll0, w2]
  | non => intro h; simp [enc, PyData.canLay0, PyData.canLayAll0, w3]
  | row p q ihp ihq => intro h; simp [Pat.good] at h; simp [enc, PyData.canLay0, PyData.canLayAll0, w4, ihp h.1, ihq h.2]
  | or p q ihp ihq => intro h; simp [Pat.good] at h; simp [enc, PyData.canLay0, PyData.canLayAll0, w5, ihp h.1, ihq h.2]
  | more p ih => intro h; simp [enc, PyData.canLay0, PyData.canLayAll0, w6, ih h]
  | less p ih => intro h; simp [enc, PyData.canLay0, PyData.canLayAll0, w7, ih h]
  | group n p ih => intro h; simp [enc, PyData.canLay0, PyData.canLayAll0, w8, ih h]
theorem enc_dep : ∀ p : Pat, (enc p).depth = p.dep := by
  intro p
  induction p with
  | row p q ihp ihq => simp [enc, PyData.depth, PyData.depthAll, Pat.dep, ihp, ihq]
  | or p q ihp ihq => simp [enc, PyData.depth, PyData.depthAll, Pat.dep, ihp, ihq]
  | more p ih => simp [enc, PyData.depth, PyData.depthAll, Pat.dep, ih]
  | less p ih => simp [enc, PyData.depth, PyData.depthAll, Pat.dep, ih]
  | group n p ih => simp [enc, PyData.depth, PyData.depthAll, Pat.dep, ih]
  | _ => simp [enc, PyData.depth, PyData.depthAll, Pat.dep]
theorem canLayAll_of {ds : List PyData} (h : ∀ d ∈ ds, d.canLay0 = true) : PyData.canLayAll0 ds = true := by
  induction ds with
  | nil => rfl
  | cons d ds ih => rw [PyData.canLayAll0, h d List.mem_cons_self, ih fun x hx => h x (List.mem_cons_of_mem _ hx)]; rfl
theorem depthAll_of {ds : List PyData} {n : Nat} (h : ∀ d ∈ ds, d.depth ≤ n) : PyData.depthAll ds ≤ n := by
  induction ds with
  | nil => exact Nat.zero_le _
  | cons d ds ih =>
    rw [PyData.depthAll]
    exact Nat.max_le.mpr ⟨h d List.mem_cons_self, ih fun x hx => h x (List.mem_cons_of_mem _ hx)⟩
theorem shaped_list {ds : List PyData} (h1 : ∀ d ∈ ds, d.canLay0 = true) (h2 : ∀ d ∈ ds, d.depth ≤ 63) : SeqAt.shaped (.list ds) = true := by
  have a : (PyData.list ds).canLay0 = true := by rw [PyData.canLay0]; exact canLayAll_of h1
  have b : (PyData.list ds).depth ≤ 64 := by rw [PyData.depth]; exact Nat.succ_le_succ (depthAll_of h2)
  unfold SeqAt.shaped
  rw [a, decide_eq_true b]
  rfl
theorem shaped_tuple {ds : List PyData} (h1 : ∀ d ∈ ds, d.canLay0 = true) (h2 : ∀ d ∈ ds, d.depth ≤ 63) : SeqAt.shaped (.tuple ds) = true := by
  have a : (PyData.tuple ds).canLay0 = true := by rw [PyData.canLay0]; exact canLayAll_of h1
  have b : (PyData.tuple ds).depth ≤ 64 := by rw [PyData.depth]; exact Nat.succ_le_succ (depthAll_of h2)
  unfold SeqAt.shaped
  rw [a, decide_eq_true b]
  rfl
theorem parts_sub : ∀ p : Pat, p.good = true → ∀ q ∈ p.parts, q.good = true ∧ q.dep ≤ p.dep := by
  intro p
  induction p with
  | row p1 p2 ih1 ih2 =>
    intro h q hq
    have h' := h
    simp [Pat.good] at h'
    simp [Pat.parts] at hq
    rcases hq with rfl | hq | hq
    · exact ⟨h, Nat.le_refl _⟩
    · have := ih1 h'.1 q hq; exact ⟨this.1, by simp [Pat.dep]; omega⟩
    · have := ih2 h'.2 q hq; exact ⟨this.1, by simp [Pat.dep]; omega⟩
  | or p1 p2 ih1 ih2 =>
    intro h q hq
    have h' := h
    simp [Pat.good] at h'
    simp [Pat.parts] at hq
    rcases hq with rfl | hq | hq
    · exact ⟨h, Nat.le_refl _⟩
    · have := ih1 h'.1 q hq; exact ⟨this.1, by simp [Pat.dep]; omega⟩
    · have := ih2 h'.2 q hq; exact ⟨this.1, by simp [Pat.dep]; omega⟩
  | more p ih =>
    intro h q hq
    simp [Pat.parts] at hq
    rcases hq with rfl | hq
    · exact ⟨h, Nat.le_refl _⟩
    · have := ih h q hq; exact ⟨this.1, by simp [Pat.dep]; omega⟩
  | less p ih =>
    intro h q hq
    simp [Pat.parts] at hq
    rcases hq with rfl | hq
    · exact ⟨h, Nat.le_refl _⟩
    · have := ih h q hq; exact ⟨this.1, by simp [Pat.dep]; omega⟩
  | group n p ih =>
    intro h q hq
    simp [Pat.parts] at hq
    rcases hq with rfl | hq
    · exact ⟨h, Nat.le_refl _⟩
    · have := ih h q hq; exact ⟨this.1, by simp [Pat.dep]; omega⟩
  | _ =>
    intro h q hq
    simp [Pat.parts] at hq
    subst hq
    exact ⟨h, Nat.le_refl _⟩
/-- what a pile weighs -/
def wt (s : List Pat) : Nat := (s.map fun p => p.parts.length).sum
@[simp] theorem wt_cons (p : Pat) (s : List Pat) : wt (p :: s) = p.parts.length + wt s := by simp [wt]
@[simp] theorem wt_nil : wt [] = 0 := rfl
theorem wt_len : ∀ s : List Pat, s.length ≤ wt s
  | [] => Nat.le_refl _
  | p :: s => by
    have := wt_len s
    have := parts_pos p
    simp
    omega
def intL (ns : List Int) : PyData := .list (ns.map PyData.int)
def signs : Str := (" !\"#$&'()*+,-./0123456789:;<=>?@ABCDEFGHIJKLMNOPQRSTUVWXYZ[\\]^_`" : Str) ++ ("abcdefghijklmnopqrstuvwxyz{|}~\n" : Str)
theorem signs_len : signs.cps.toList.length = 95 := by decide +kernel
theorem signs_size : signs.length = 95 := by decide +kernel
theorem signs_ok : signs.cps.toList.all (fun c => decide (c < 128)) = true := by decide +kernel
theorem signs_add : fAdd (.str " !\"#$&'()*+,-./0123456789:;<=>?@ABCDEFGHIJKLMNOPQRSTUVWXYZ[\\]^_`") (.str "abcdefghijklmnopqrstuvwxyz{|}~\n") = some (.dat (.str signs)) := by
  have h : (" !\"#$&'()*+,-./0123456789:;<=>?@ABCDEFGHIJKLMNOPQRSTUVWXYZ[\\]^_`" : Str).length + ("abcdefghijklmnopqrstuvwxyz{|}~\n" : Str).length ≤ sizeLine := by decide +kernel
  rw [fAdd, if_pos h]
  rfl
theorem atI_mod {α : Type} (l : List α) (n : Nat) (c : Int) (hl : l.length = n) (hn : 0 < n) : ∃ x, x ∈ l ∧ atI l (c % (n : Int)) = some x := by
  have h0 : 0 ≤ c % (n : Int) := Int.emod_nonneg _ (by omega)
  have h1 : c % (n : Int) < n := Int.emod_lt_of_pos _ (by omega)
  obtain ⟨k, hk⟩ := Int.eq_ofNat_of_zero_le h0
  have hk2 : k < l.length := by omega
  exact ⟨l[k], List.getElem_mem hk2, by rw [hk]; exact atI_nat (List.getElem?_eq_getElem hk2)⟩
theorem mod2 (c : Int) : c % 2 = 0 ∨ c % 2 = 1 := by omega
theorem mod3 (c : Int) : c % 3 = 0 ∨ c % 3 = 1 ∨ c % 3 = 2 := by omega
theorem cutL_map {α β : Type} (f : α → β) (l : List α) (lo hi : Option Int) : cutL (l.map f) lo hi = (cutL l lo hi).map f := by
  unfold cutL
  simp
theorem cutL_len {α : Type} (l : List α) (lo hi : Option Int) : (cutL l lo hi).length ≤ l.length := by
  unfold cutL
  simp
  omega
theorem cutL_nat {α : Type} (l : List α) (i j : Nat) : (cutL l (some (i : Int)) (some (j : Int))).length ≤ j - i := by
  unfold cutL
  rw [show HT.sIx l.length 0 (some (i : Int)) = min i l.length from HT.sIx_nat l.length 0 i, show HT.sIx l.length l.length (some (j : Int)) = min j l.length from HT.sIx_nat l.length l.length j]
  simp
  omega
end GM

namespace GM
open PySem PySem.Spec L2
/-! ### cells, signs -/
theorem cell_at_ok (ns : List Int) (k : Nat) : ∃ i, F__law_cell_at [intL ns, .int k] = .ok (.dat (.int i)) := by
  unfold F__law_cell_at runF g__law_cell_at
  by_cases h : k < ns.length
  · have e : atI (ns.map PyData.int) (k : Int) = some (.int ns[k]) := atI_nat (by simp [h])
    exact ⟨ns[k], by simp [intL, h, e]⟩
  · exact ⟨0, by simp [intL, h]⟩
theorem sign_ok (c : Int) : ∃ x : Nat, x < 128 ∧ F__law_sign [.int c] = .ok (.dat (.str ⟨#[x]⟩)) := by
  obtain ⟨x, hm, hx⟩ := atI_mod signs.cps.toList 95 c signs_len (by decide)
  have hz : signs.length ≤ sizeLine := by rw [signs_size, szl]; decide
  have hx' : atI signs.cps.toList (c % 95) = some x := hx
  have hlt : x < 128 := of_decide_eq_true (List.all_eq_true.mp signs_ok x hm)
  unfold F__law_sign runF g__law_sign
  refine ⟨x, hlt, ?_⟩
  simp [signs_add, -fAdd_s, hz, hx']
theorem sign_good {x : Nat} (h : x < 128) : PyData.strOk ⟨#[x]⟩ = true := by
  simp [PyData.strOk]
  omega
/-! ### building -/
def pr (p : Pat) : PyData := .tuple [enc p, .bool p.nul]
@[simp] theorem pr_0 (p : Pat) : fIx (pr p) (.int 0) = some (enc p) := rfl
@[simp] theorem pr_1 (p : Pat) : fIx (pr p) (.int 1) = some (.bool p.nul) := rfl
/-- a pattern of at most n parts, d deep, of good signs -/
def Ok (n d : Nat) (p : Pat) : Prop := p.parts.length ≤ n ∧ p.dep ≤ d ∧ p.good = true
theorem leaf_ok (c h : Int) : ∃ p, F__law_leaf [.int c, .int h] = .ok (.dat (pr p)) ∧ Ok 1 1 p := by
  obtain ⟨x1, l1, h1⟩ := sign_ok (c / 6)
  obtain ⟨x2, l2, h2⟩ := sign_ok (h / 95)
  obtain ⟨x3, l3, h3⟩ := sign_ok h
  unfold F__law_leaf runF g__law_leaf
  by_cases e5 : c % 6 = 5
  · rcases mod3 (c / 6) with e0 | e0 | e0
    · exact ⟨.non, by simp [h3, e5, e0, boolD]; rfl, by decide, by decide, rfl⟩
    · exact ⟨.any, by simp [h3, e5, e0, boolD]; rfl, by decide, by decide, rfl⟩
    · exact ⟨.any, by simp [h3, e5, e0, boolD]; rfl, by decide, by decide, rfl⟩
  · by_cases e4 : c % 6 = 4
    · exact ⟨.sign ⟨#[x1]⟩, by simp [e4, h1, boolD]; rfl, Nat.le_refl _, Nat.le_refl _, sign_good l1⟩
    · by_cases e3 : c % 6 = 3
      · exact ⟨.sign ⟨#[x2]⟩, by simp [e3, h2, boolD]; rfl, Nat.le_refl _, Nat.le_refl _, sign_good l2⟩
      · exact ⟨.sign ⟨#[x3]⟩, by simp [e5, e4, e3, h3, boolD]; rfl, Nat.le_refl _, Nat.le_refl _, sign_good l3⟩
theorem two_ok (c : Int) (l r : Pat) {a b d e : Nat} (hl : Ok a d l) (hr : Ok b e r) : ∃ p, F__law_two [.int c, pr l, pr r] = .ok (.dat (pr p)) ∧ Ok (1 + a + b) (max d e + 1) p := by
  obtain ⟨l1, l2, l3⟩ := hl
  obtain ⟨r1, r2, r3⟩ := hr
  unfold F__law_two runF g__law_two
  rcases mod2 c with e | e
  · refine ⟨.row l r, ?_, by simp [Pat.parts]; omega, by simp [Pat.dep]; omega, by simp [Pat.good, l3, r3]⟩
    cases hl : l.nul <;> cases hr : r.nul <;> (simp [e, hl, hr]; simp [pr, enc, Pat.nul, Pat.parts, hl, hr])
  · refine ⟨.or l r, ?_, by simp [Pat.parts]; omega, by simp [Pat.dep]; omega, by simp [Pat.good, l3, r3]⟩
    cases hl : l.nul <;> cases hr : r.nul <;> (simp [e, hl, hr]; simp [pr, enc, Pat.nul, Pat.parts, hl, hr])
theorem round_ok (c h : Int) (p : Pat) {a d : Nat} (hp : Ok a d p) : ∃ q, F__law_round [.int c, pr p, .int h] = .ok (.dat (pr q)) ∧ Ok (3 + a) (2 + d) q := by
  obtain ⟨x3, l3, h3⟩ := sign_ok h
  obtain ⟨p1, p2, p3⟩ := hp
  have sg := sign_good l3
  have hdp := dep_pos p
  unfold F__law_round runF g__law_round
  rcases mod2 c with hc | hc
  · cases hn : p.nul with
    | false =>
      refine ⟨.more p, ?_, by simp [Pat.parts]; omega, by simp [Pat.dep]; omega, p3⟩
      simp [hn, hc]
      simp [pr, enc, Pat.nul, Pat.parts]
    | true =>
      refine ⟨.more (.row (.sign ⟨#[x3]⟩) p), ?_, by simp [Pat.parts]; omega, by simp [Pat.dep]; omega, by simp [Pat.good, p3]; exact sg⟩
      simp [hn, hc, h3]
      simp [pr, enc, Pat.nul, Pat.parts]
  · cases hn : p.nul with
    | false =>
      refine ⟨.less p, ?_, by simp [Pat.parts]; omega, by simp [Pat.dep]; omega, p3⟩
      simp [hn, hc]
      simp [pr, enc, Pat.nul, Pat.parts]
    | true =>
      refine ⟨.less (.row (.sign ⟨#[x3]⟩) p), ?_, by simp [Pat.parts]; omega, by simp [Pat.dep]; omega, by simp [Pat.good, p3]; exact sg⟩
      simp [hn, hc, h3]
      simp [pr, enc, Pat.nul, Pat.parts]
/-! ### the pile -/
def Pile (z h : Sl) (st : Int) (k : Nat) (r : En) : Prop := ∃ (s : List Pat) (m : Int) (a b c d : Sl) (x : Nat), r = [z, h, .own (stk pr s), .dat (.int st), .dat (.int m), a, b, c, d] ∧ wt s ≤ 3 * k ∧ (∀ p ∈ s, p.dep ≤ x ∧ p.good = true) ∧ x + s.length ≤ 2 * k
theorem deed_ok (z : Sl) (h st : Int) (k : Nat) (hn : k ≤ 1000) (cell : Int) (r : En) (hr : Pile z (.dat (.int h)) st k r) : ∃ r2, b__law_made_0 (r.set 5 (.dat (.int cell))) = .ok .nx r2 ∧ Pile z (.dat (.int h)) st (k + 1) r2 := by
  obtain ⟨s, m, a, b, c, d, x, rfl, hw, hd, hx⟩ := hr
  have hz := szl
  have hsl := wt_len s
  have cz : s.length < 16777216 := by omega
  have leaf : (cell % 10 < 3 ∨ s.length = 0 ∨ (cell % 10 < 6 ∧ s.length < 2)) → ∃ r2, b__law_made_0 ([z, .dat (.int h), .own (stk pr s), .dat (.int st), .dat (.int m), .dat (.int cell), b, c, d]) = .ok .nx r2 ∧ Pile z (.dat (.int h)) st (k + 1) r2 := fun k4 => by
    obtain ⟨p, hp, hl, hdp, hg⟩ := leaf_ok (cell / 10) h
    refine ⟨[z, .dat (.int h), .own (stk pr (p :: s)), .dat (.int st), .dat (.int m), .dat (.int cell), .dat (.int (cell % 10)), c, d], ?_, p :: s, m, _, _, _, _, max x 1, rfl, by simp; omega, ?_, by simp; omega⟩
    · by_cases k : cell % 10 < 3
      · simp [b__law_made_0, k, hp, hz, cz, stk_app]
      · by_cases k0 : (s.length : Int) = 0
        · simp [b__law_made_0, k, k0, hp, hz, cz, stk_app]
        · have k1 : cell % 10 < 6 := by omega
          have k2 : (s.length : Int) < 2 := by omega
          simp [b__law_made_0, k, k0, k1, k2, hp, hz, cz, stk_app]
    · intro q hq
      rcases List.mem_cons.mp hq with rfl | hq
      · exact ⟨by omega, hg⟩
      · have := hd q hq; exact ⟨by omega, this.2⟩
  show ∃ r2, b__law_made_0 ([z, .dat (.int h), .own (stk pr s), .dat (.int st), .dat (.int m), .dat (.int cell), b, c, d]) = .ok .nx r2 ∧ Pile z (.dat (.int h)) st (k + 1) r2
  by_cases k4 : cell % 10 < 3 ∨ s.length = 0 ∨ (cell % 10 < 6 ∧ s.length < 2)
  · exact leaf k4
  · clear leaf
    have k1 : ¬ cell % 10 < 3 := fun k => k4 (.inl k)
    have k2 : ¬ (s.length : Int) = 0 := fun k => k4 (.inr (.inl (by omega)))
    have k3 : cell % 10 < 6 → ¬ (s.length : Int) < 2 := fun k q => k4 (.inr (.inr ⟨k, by omega⟩))
    cases s with
    | nil => exact absurd rfl k2
    | cons p s =>
      simp only [List.length_cons, Int.natCast_add, Int.cast_ofNat_Int] at k2 k3 cz
      have cz' : s.length < 16777216 := by omega
      have hdp := hd p List.mem_cons_self
      have hds : ∀ q ∈ s, q.dep ≤ x ∧ q.good = true := fun q hq => hd q (List.mem_cons_of_mem _ hq)
      by_cases k7 : cell % 10 < 6
      · have k5 := k3 k7
        cases s with
        | nil => exact absurd (by decide) k5
        | cons q s =>
          simp only [List.length_cons, Int.natCast_add, Int.cast_ofNat_Int] at k2 k5 cz'
          have hdq := hds q List.mem_cons_self
          obtain ⟨t, ht, hl, htd, htg⟩ := two_ok (cell / 10) q p ⟨Nat.le_refl _, Nat.le_refl _, hdq.2⟩ ⟨Nat.le_refl _, Nat.le_refl _, hdp.2⟩
          refine ⟨[z, .dat (.int h), .own (stk pr (t :: s)), .dat (.int st), .dat (.int m), .dat (.int cell), .dat (.int (cell % 10)), .dat (pr p), d], ?_, t :: s, m, _, _, _, _, x + 1, rfl, by simp at hw ⊢; omega, ?_, by simp at hx ⊢; omega⟩
          · have cz2 : s.length < 16777216 := by omega
            simp [b__law_made_0, k1, k2, k5, k7, ht, hz, cz2, stk_app]
          · intro u hu
            rcases List.mem_cons.mp hu with rfl | hu
            · exact ⟨by omega, htg⟩
            · have := hds u (List.mem_cons_of_mem _ hu); exact ⟨by omega, this.2⟩
      · by_cases k9 : cell % 10 < 8
        · obtain ⟨t, ht, hl, htd, htg⟩ := round_ok (cell / 10) h p ⟨Nat.le_refl _, Nat.le_refl _, hdp.2⟩
          refine ⟨[z, .dat (.int h), .own (stk pr (t :: s)), .dat (.int st), .dat (.int m), .dat (.int cell), .dat (.int (cell % 10)), c, d], ?_, t :: s, m, _, _, _, _, x + 2, rfl, by simp at hw ⊢; omega, ?_, by simp at hx ⊢; omega⟩
          · simp [b__law_made_0, k1, k2, k7, k9, ht, hz, cz', stk_app]
          · intro u hu
            rcases List.mem_cons.mp hu with rfl | hu
            · exact ⟨by omega, htg⟩
            · have := hds u hu; exact ⟨by omega, this.2⟩
        · refine ⟨[z, .dat (.int h), .own (stk pr (.group (m + st) p :: s)), .dat (.int st), .dat (.int (m + st)), .dat (.int cell), .dat (.int (cell % 10)), c, .dat (pr p)], ?_, .group (m + st) p :: s, m + st, _, _, _, _, x + 1, rfl, by simp [Pat.parts] at hw ⊢; omega, ?_, by simp at hx ⊢; omega⟩
          · have e9 : stk pr s ++ [PyData.tuple [.tuple [.str "group", .int (m + st), enc p], .bool p.nul]] = stk pr (.group (m + st) p :: s) := stk_app (f := pr) (x := Pat.group (m + st) p) (s := s)
            simp [b__law_made_0, k1, k2, k7, k9, hz, cz', e9]
          · intro u hu
            rcases List.mem_cons.mp hu with rfl | hu
            · exact ⟨by simp [Pat.dep]; omega, hdp.2⟩
            · have := hds u hu; exact ⟨by omega, this.2⟩
theorem rows_ok (z h a st m b d e : Sl) : ∀ (n : Nat) (s : List Pat) (c : Sl) (x : Nat), s.length = n → wt s + s.length ≤ 10000 → (∀ p ∈ s, p.dep ≤ x ∧ p.good = true) →
    ∃ (s' : List Pat) (c' : Sl), gWhile (op2 fGt (dLenV 2) (dC (.int 1))) b__law_made_1 [z, h, .own (stk pr s), st, m, b, d, c, e] = .ok .nx [z, h, .own (stk pr s'), st, m, b, d, c', e] ∧ s'.length ≤ 1 ∧ wt s' ≤ wt s + s.length ∧ ∀ p ∈ s', p.dep + 1 ≤ x + s.length ∧ p.good = true := by
  intro n
  induction n using Nat.strongRecOn with
  | _ n ih =>
    intro s c x hn hw hd
    have hz := szl
    rw [gWhile_unfold]
    match s, hn, hw, hd with
    | [], hn, hw, hd => exact ⟨[], c, by simp, by simp, by simp, by simp⟩
    | [p], hn, hw, hd => exact ⟨[p], c, by simp, by simp, by simp, fun q hq => by have := hd q hq; simp; exact this⟩
    | p :: q :: s, hn, hw, hd =>
      have hp := hd p (by simp)
      have hq := hd q (by simp)
      obtain ⟨t, ht, hl, htd, htg⟩ := two_ok 0 q p ⟨Nat.le_refl _, Nat.le_refl _, hq.2⟩ ⟨Nat.le_refl _, Nat.le_refl _, hp.2⟩
      have cz' : s.length < 16777216 := by
        simp at hw
        omega
      obtain ⟨s', c', h1, h2, h3, h4⟩ := ih (t :: s).length (by simp at hn ⊢; omega) (t :: s) (.dat (pr p)) (x + 1) rfl (by simp at hw ⊢; omega) (fun u hu => by
        rcases List.mem_cons.mp hu with rfl | hu
        · exact ⟨by omega, htg⟩
        · have := hd u (by simp [hu]); exact ⟨by omega, this.2⟩)
      refine ⟨s', c', ?_, h2, by simp at h3 ⊢; omega, fun u hu => by have := h4 u hu; simp at this ⊢; exact ⟨by omega, this.2⟩⟩
      rw [← h1]
      simp [b__law_made_1, ht, cz', hz, stk_app]
      intro hf
      omega
theorem made_ok (cells : List Int) (h : Int) (hc : cells.length ≤ 1000) : ∃ p : Pat, F__law_made [intL cells, .int h] = .ok (.dat (enc p)) ∧ Ok (5 * cells.length + 1) (2 * cells.length + 1) p := by
  unfold F__law_made runF g__law_made
  have hst : 0 < 1 + h / 7 % 900 := by omega
  obtain ⟨r', e1, hr'⟩ := forL_okN (g := b__law_made_0) (i := 5) (fun ds r => ∃ ns : List Int, ds = ns.map PyData.int ∧ ns.length ≤ cells.length ∧ Pile (.dat (intL cells)) (.dat (.int h)) (1 + h / 7 % 900) (cells.length - ns.length) r) (fun d ds r hI => by
    obtain ⟨ns, e, hl, hp⟩ := hI
    cases ns with
    | nil => cases e
    | cons i ns =>
      rw [List.map_cons] at e
      obtain ⟨rfl, rfl⟩ := List.cons.inj e
      rw [List.length_cons] at hl hp
      obtain ⟨r2, h1, h2⟩ := deed_ok _ _ _ _ (by omega) i r hp
      refine ⟨r2, .inl h1, ns, rfl, by omega, ?_⟩
      have e3 : cells.length - (ns.length + 1) + 1 = cells.length - ns.length := by omega
      rw [← e3]
      exact h2) (cells.map PyData.int) [.dat (intL cells), .dat (.int h), .own [], .dat (.int (1 + h / 7 % 900)), .dat (.int (h % (1 + h / 7 % 900))), .emp, .emp, .emp, .emp] ⟨cells, rfl, Nat.le_refl _, [], _, _, _, _, _, 0, rfl, by simp, by simp, by simp⟩
  obtain ⟨ns, hns, _, s, m, a, b, c, d, x, rfl, hw, hd, hx⟩ := hr'
  have hns' : ns = [] := by
    cases ns with
    | nil => rfl
    | cons _ _ => cases hns
  subst hns'
  simp only [List.length_nil, Nat.sub_zero] at hw hx
  have hsl := wt_len s
  obtain ⟨s', c', e2, h2, h3, h4⟩ := rows_ok (.dat (intL cells)) (.dat (.int h)) a (.dat (.int (1 + h / 7 % 900))) (.dat (.int m)) a b d s.length s c x rfl (by omega) hd
  match s', h2, h3, h4, e2 with
  | [], _, _, _, e2 =>
    refine ⟨.non, ?_, by simp [Pat.parts], by simp [Pat.dep], rfl⟩
    simp [intL, hst] at e1 e2 ⊢
    simp [e1, e2]
    rfl
  | [p], _, h3, h4, e2 =>
    have := h4 p (by simp)
    refine ⟨p, ?_, by simp at h3; omega, by omega, this.2⟩
    have e3 : stk pr [p] = [pr p] := rfl
    simp [intL, hst, e3] at e1 e2 ⊢
    simp [e1, e2, e3]
end GM

namespace GM
open PySem PySem.Spec L2
/-! ### states -/
inductive Th where
  | p (q : Pat) | c (n : Int)
def encT : Th → PyData
  | .p q => enc q
  | .c n => .tuple [.str "close", .int n]
def st (x : List Th × Nat) : PyData := .tuple [.tuple (x.1.map encT), .int x.2]
def chr (t : Str) (k : Nat) : Option Str := (t.cps.toList[k]?).map fun c => ⟨#[c]⟩
def onw (t : Str) : List Th → Nat → List (List Th × Nat)
  | [], _ => []
  | .p (.sign s) :: r, k => if chr t k = some s then [(r, k + 1)] else []
  | .p .any :: r, k => if k < t.length then [(r, k + 1)] else []
  | .p .non :: r, k => [(r, k)]
  | .p (.row a b) :: r, k => [(.p a :: .p b :: r, k)]
  | .p (.or a b) :: r, k => [(.p a :: r, k), (.p b :: r, k)]
  | .p (.more a) :: r, k => [(.p a :: .p (.more a) :: r, k), (r, k)]
  | .p (.less a) :: r, k => [(r, k), (.p a :: .p (.less a) :: r, k)]
  | .p (.group n a) :: r, k => [(.p a :: .c n :: r, k)]
  | .c _ :: r, k => [(r, k)]
@[simp] theorem cutL_tail {α : Type} (x : α) (l : List α) : cutL (x :: l) (some 1) none = l := by
  unfold cutL
  rw [show HT.sIx (x :: l).length 0 (some 1) = 1 from by rw [show (1 : Int) = ((1 : Nat) : Int) from rfl, HT.sIx_nat]; simp]
  simp [HT.sIx]
@[simp] theorem len1_ne (n : Nat) : ((n : Int) + 1 = 0) = False := eq_false (by omega)
theorem first_state_ok (p : Pat) : F_first_state [enc p] = .ok (.dat (st ([.p p], 0))) := by
  unfold F_first_state runF g_first_state
  simp [st, encT]
theorem is_end_ok (r : List Th) (k : Nat) (t : Str) (ht : t.length ≤ 1000) : F_is_end [st (r, k), .str t] = .ok (.dat (.bool (decide (r = [] ∧ k = t.length)))) := by
  unfold F_is_end runF g_is_end
  have hz := szl
  have ht' : t.length ≤ 16777216 := by omega
  cases r with
  | nil => simp [st, boolD, hz, ht']; omega
  | cons x r => simp [st, boolD, hz, ht']
theorem chr_lt {t : Str} {k : Nat} (h : k < t.length) : ∃ c, t.cps.toList[k]? = some c ∧ chr t k = some ⟨#[c]⟩ := by
  have h' : k < t.cps.toList.length := by simpa [Str.length] using h
  exact ⟨t.cps.toList[k], List.getElem?_eq_getElem h', by rw [chr, List.getElem?_eq_getElem h']; rfl⟩
theorem chr_ge {t : Str} {k : Nat} (h : t.length ≤ k) : chr t k = none := by
  have h' : t.cps.toList.length ≤ k := by simpa [Str.length] using h
  rw [chr, List.getElem?_eq_none h']; rfl
theorem takes_sign (s : Str) (t : Str) (k : Nat) (ht : t.length ≤ 1000) : F_takes [enc (.sign s), .str t, .int k] = .ok (.dat (.bool (decide (chr t k = some s)))) := by
  unfold F_takes runF g_takes
  have hz := szl
  have ht' : t.length ≤ 16777216 := by omega
  by_cases h : k < t.length
  · obtain ⟨c, h1, h2⟩ := chr_lt h
    have h3 : atI t.cps.toList (k : Int) = some c := atI_nat h1
    have h4 : ¬ ((t.length : Nat) : Int) ≤ k := by omega
    simp [enc, boolD, hz, ht', h2, h3, h4]
  · have h4 : ((t.length : Nat) : Int) ≤ k := by omega
    simp [enc, boolD, hz, ht', chr_ge (Nat.not_lt.mp h), h4]
theorem takes_any (t : Str) (k : Nat) (ht : t.length ≤ 1000) : F_takes [enc .any, .str t, .int k] = .ok (.dat (.bool (decide (k < t.length)))) := by
  unfold F_takes runF g_takes
  have hz := szl
  have ht' : t.length ≤ 16777216 := by omega
  by_cases h : k < t.length
  · have h4 : ¬ ((t.length : Nat) : Int) ≤ k := by omega
    simp [enc, boolD, hz, ht', h, h4]
  · have h4 : ((t.length : Nat) : Int) ≤ k := by omega
    simp [enc, boolD, hz, ht', h, h4]
theorem onward_ok (r : List Th) (k : Nat) (t : Str) (ht : t.length ≤ 1000) (hr : r.length ≤ 100000) : F_onward [st (r, k), .str t] = .ok (.own ((onw t r k).map st)) := by
  unfold F_onward runF g_onward
  have hz := szl
  have ht' : t.length ≤ 16777216 := by omega
  match r, hr with
  | [], _ => simp [st, onw]
  | .c n :: r, hr =>
    have hl : r.length ≤ 16777000 := by simp at hr; omega
    simp [st, onw, encT]
  | .p q :: r, hr =>
    have hl : r.length + 1 ≤ 100000 := by simpa using hr
    have hl1 : 1 + r.length ≤ 16777216 := by omega
    have hl2 : 2 + r.length ≤ 16777216 := by omega
    cases q with
    | sign s =>
      have h1 := takes_sign s t k ht
      by_cases h : chr t k = some s
      · simp [h] at h1
        simp [enc] at h1
        simp [st, onw, encT, enc, h1, h]
      · simp [h] at h1
        simp [enc] at h1
        simp [st, onw, encT, enc, h1, h]
    | any =>
      have h1 := takes_any t k ht
      by_cases h : k < t.length
      · simp [h] at h1
        simp [enc] at h1
        simp [st, onw, encT, enc, h1, h]
      · simp [h] at h1
        simp [enc] at h1
        simp [st, onw, encT, enc, h1, h]
    | non => simp [st, onw, encT, enc, hz, hl1, hl2]
    | row a b => simp [st, onw, encT, enc, hz, hl1, hl2]
    | or a b => simp [st, onw, encT, enc, hz, hl1, hl2]
    | more a => simp [st, onw, encT, enc, hz, hl1, hl2]
    | less a => simp [st, onw, encT, enc, hz, hl1, hl2]
    | group n a => simp [st, onw, encT, enc, hz, hl1, hl2]
theorem due_ok (r : List Th) (k : Nat) (t : Str) (ht : t.length ≤ 1000) (hk : k ≤ t.length) (hr : r.length ≤ 100000) : F__law_due [.tuple (r.map encT), .int k, .str t] = .ok (.own ((onw t r k).map st)) := by
  unfold F__law_due runF g__law_due
  have hz := szl
  have ht' : t.length ≤ 16777216 := by omega
  match r, hr with
  | [], _ => simp [st, onw]
  | .c n :: r, hr =>
    have hl : r.length ≤ 16777000 := by simp at hr; omega
    have h0 : ¬ (r.length : Int) + 1 = 0 := by omega
    simp [st, onw, encT, h0]
  | .p q :: r, hr =>
    have hl : r.length + 1 ≤ 100000 := by simpa using hr
    have hl1 : 1 + r.length ≤ 16777216 := by omega
    have hl2 : 2 + r.length ≤ 16777216 := by omega
    have h0 : ¬ (r.length : Int) + 1 = 0 := by omega
    cases q with
    | sign s =>
      by_cases h : k < t.length
      · obtain ⟨c, h1, h2⟩ := chr_lt h
        have h3 : atI t.cps.toList (k : Int) = some c := atI_nat h1
        have h4 : ¬ (k : Int) = (t.length : Nat) := by omega
        by_cases h5 : (⟨#[c]⟩ : Str) = s
        · subst h5
          simp [st, onw, encT, enc, hz, ht', h0, h2, h3, h4]
        · have h6 : ¬ s = (⟨#[c]⟩ : Str) := fun q => h5 q.symm
          simp [st, onw, encT, enc, hz, ht', h0, h2, h3, h4, h5, h6]
      · have h4 : k = t.length := by omega
        subst h4
        simp [st, onw, encT, enc, hz, ht', h0, chr_ge (Nat.le_refl _)]
    | any =>
      by_cases h : k < t.length
      · have h4 : ¬ (k : Int) = (t.length : Nat) := by omega
        simp [st, onw, encT, enc, hz, ht', h0, h, h4]
      · have h4 : k = t.length := by omega
        subst h4
        simp [st, onw, encT, enc, hz, ht', h0]
    | non => simp [st, onw, encT, enc, hz, hl1, hl2, h0]
    | row a b => simp [st, onw, encT, enc, hz, hl1, hl2, h0]
    | or a b => simp [st, onw, encT, enc, hz, hl1, hl2, h0]
    | more a => simp [st, onw, encT, enc, hz, hl1, hl2, h0]
    | less a => simp [st, onw, encT, enc, hz, hl1, hl2, h0]
    | group n a => simp [st, onw, encT, enc, hz, hl1, hl2, h0]
end GM

namespace GM
open PySem PySem.Spec L2
/-! ### the bits -/
theorem bits_in (z a k : Sl) : ∀ (n : Nat) (m : List PyData) (bs : List Int) (c : Int) (x : Sl), bs.length + n ≤ 1000 → m.length = n → ∃ (bs' : List Int) (c' : Int) (x' : Sl), forL (gtN 4) b__law_bits_0 m [z, .own (bs.map PyData.int), k, .dat (.int c), x] = .ok .nx [z, .own (bs'.map PyData.int), k, .dat (.int c'), x'] ∧ bs'.length = bs.length + n := by
  intro n
  have hz := szl
  induction n with
  | zero => intro m bs c x _ hm; cases m with
    | nil => exact ⟨bs, c, x, rfl, rfl⟩
    | cons _ _ => cases hm
  | succ n ih =>
    intro m bs c x hl hm
    cases m with
    | nil => cases hm
    | cons d m =>
      obtain ⟨bs', c', x', h1, h2⟩ := ih m (bs ++ [c % 2]) (c / 2) (.dat d) (by simp; omega) (by simpa using hm)
      refine ⟨bs', c', x', ?_, by simp at h2; omega⟩
      rw [← h1]
      have hl1 : bs.length < 16777216 := by omega
      simp [b__law_bits_0, hz, hl1]
theorem bits_out (ns : List Int) : ∀ (m : List Nat) (bs : List Int) (a c x : Sl), bs.length + 8 * m.length ≤ 1000 → ∃ (bs' : List Int) (a' c' x' : Sl), forL (gtN 2) b__law_bits_1 (m.map fun i : Nat => PyData.int (i : Int)) [.dat (intL ns), .own (bs.map PyData.int), a, c, x] = .ok .nx [.dat (intL ns), .own (bs'.map PyData.int), a', c', x'] ∧ bs'.length = bs.length + 8 * m.length := by
  intro m
  induction m with
  | nil => intro bs a c x _; exact ⟨bs, a, c, x, rfl, rfl⟩
  | cons i m ih =>
    intro bs a c x hl
    rw [List.length_cons] at hl
    obtain ⟨j, hj⟩ := cell_at_ok ns (18 + i)
    have hj' : F__law_cell_at [intL ns, .int (18 + i)] = .ok (.dat (.int j)) := hj
    obtain ⟨b1, c1, x1, k1, k2⟩ := bits_in (.dat (intL ns)) a (.dat (.int i)) 8 (rng 8) bs j x (by omega) (by simp [rng])
    obtain ⟨b2, a2, c2, x2, k3, k4⟩ := ih b1 (.dat (.int i)) (.dat (.int c1)) x1 (by omega)
    refine ⟨b2, a2, c2, x2, ?_, by rw [List.length_cons]; omega⟩
    rw [← k3]
    simp [b__law_bits_1, hj', k1]
theorem bits_ok (ns : List Int) : ∃ bs : List Int, F__law_bits [intL ns] = .ok (.own (bs.map PyData.int)) ∧ bs.length = 40 := by
  obtain ⟨bs, a, c, x, h1, h2⟩ := bits_out ns (List.range 5) [] .emp .emp .emp (by decide)
  refine ⟨bs, ?_, by simpa using h2⟩
  unfold F__law_bits runF g__law_bits
  have e : (rng 5) = (List.range 5).map fun i : Nat => PyData.int (i : Int) := rfl
  simp [e] at h1 ⊢
  simp [h1]
/-! ### the text -/
@[simp] theorem app_len (a b : Str) : (a ++ b).length = a.length + b.length := Array.size_append
theorem one_len (x : Nat) : (⟨#[x]⟩ : Str).length = 1 := rfl
theorem text_loop (z h p t b : Sl) (hd : Int) (hh : h = .dat (.int hd)) : ∀ (m : List PyData) (s : Str) (c : Int) (k : Sl), s.length + m.length ≤ 1000 → ∃ (s' : Str) (c' : Int) (k' : Sl), forL (gtN 6) b_law_0 m [z, h, p, t, .dat (.str s), .dat (.int c), k, .emp, .emp, .emp, .emp, .emp, .emp, .emp] = .ok .nx [z, h, p, t, .dat (.str s'), .dat (.int c'), k', .emp, .emp, .emp, .emp, .emp, .emp, .emp] ∧ s'.length = s.length + m.length := by
  subst hh
  intro m
  induction m with
  | nil => intro s c k _; exact ⟨s, c, k, rfl, rfl⟩
  | cons d m ih =>
    intro s c k hl
    have hz := szl
    rw [List.length_cons] at hl
    have hm : ∃ v : Int, atI [PyData.int hd, .int (hd / 95), .int hd, .int (c / 4)] (c % 4) = some (.int v) := by
      have h4 : c % 4 = 0 ∨ c % 4 = 1 ∨ c % 4 = 2 ∨ c % 4 = 3 := by omega
      rcases h4 with e | e | e | e
      · exact ⟨hd, by rw [e]; rfl⟩
      · exact ⟨hd / 95, by rw [e]; rfl⟩
      · exact ⟨hd, by rw [e]; rfl⟩
      · exact ⟨c / 4, by rw [e]; rfl⟩
    obtain ⟨v, hv⟩ := hm
    obtain ⟨x, hx, hs1⟩ := sign_ok v
    have hone : (⟨#[x]⟩ : Str).length = 1 := rfl
    obtain ⟨s', c', k', k1, k2⟩ := ih (s ++ ⟨#[x]⟩) (c / 4) (.dat d) (by simp; omega) 
    refine ⟨s', c', k', ?_, by rw [app_len, hone] at k2; rw [List.length_cons]; omega⟩
    rw [← k1]
    have hl1 : s.length + 1 ≤ 16777216 := by omega
    simp [b_law_0, hv, hs1, hz, hl1, one_len]
/-! ### the walk -/
def thOk (d : Nat) : Th → Prop
  | .p q => q.good = true ∧ q.dep ≤ d
  | .c _ => 2 ≤ d
theorem encT_lay (x : Th) {d : Nat} (h : thOk d x) : (encT x).canLay0 = true ∧ (encT x).depth ≤ d := by
  cases x with
  | p q => exact ⟨enc_lay q h.1, by rw [encT, enc_dep]; exact h.2⟩
  | c n => exact ⟨by simp [encT, PyData.canLay0, PyData.canLayAll0, strOk_words.2.2.2.2.2.2.2.2], by simp [encT, PyData.depth, PyData.depthAll]; exact Nat.le_trans (by decide) h⟩
theorem st_lay (x : List Th × Nat) {d : Nat} (h : ∀ y ∈ x.1, thOk d y) : (st x).canLay0 = true ∧ (st x).depth ≤ d + 2 := by
  have h1 : PyData.canLayAll0 (x.1.map encT) = true := canLayAll_of fun y hy => by
    obtain ⟨u, hu, rfl⟩ := List.mem_map.mp hy
    exact (encT_lay u (h u hu)).1
  have h2 : PyData.depthAll (x.1.map encT) ≤ d := depthAll_of fun y hy => by
    obtain ⟨u, hu, rfl⟩ := List.mem_map.mp hy
    exact (encT_lay u (h u hu)).2
  exact ⟨by simp [st, PyData.canLay0, PyData.canLayAll0, h1], by simp [st, PyData.depth, PyData.depthAll]; omega⟩
theorem onw_ok (t : Str) (r : List Th) (k : Nat) {d : Nat} (hd : 2 ≤ d) (h : ∀ y ∈ r, thOk d y) (hk : k ≤ t.length) : ∀ x ∈ onw t r k, (∀ y ∈ x.1, thOk d y) ∧ x.1.length ≤ r.length + 1 ∧ x.2 ≤ t.length := by
  match r, h with
  | [], _ => intro x hx; simp [onw] at hx
  | .c n :: r, h =>
    intro x hx
    simp [onw] at hx
    subst hx
    exact ⟨fun y hy => h y (List.mem_cons_of_mem _ hy), by simp; omega, hk⟩
  | .p q :: r, h =>
    have hq := h (.p q) List.mem_cons_self
    have hr : ∀ y ∈ r, thOk d y := fun y hy => h y (List.mem_cons_of_mem _ hy)
    cases q with
    | sign s =>
      intro x hx
      rw [onw] at hx
      split at hx
      · rename_i hc
        simp at hx
        subst hx
        refine ⟨hr, by simp; omega, ?_⟩
        by_cases hlt : k < t.length
        · exact hlt
        · rw [chr_ge (Nat.not_lt.mp hlt)] at hc
          cases hc
      · simp at hx
    | any =>
      intro x hx
      rw [onw] at hx
      split at hx
      · rename_i hc
        simp at hx
        subst hx
        exact ⟨hr, by simp; omega, hc⟩
      · simp at hx
    | non =>
      intro x hx
      simp [onw] at hx
      subst hx
      exact ⟨hr, by simp; omega, hk⟩
    | row a b =>
      intro x hx
      simp [onw] at hx
      subst hx
      simp [thOk, Pat.good, Pat.dep] at hq
      refine ⟨fun y hy => ?_, by simp, hk⟩
      rcases List.mem_cons.mp hy with rfl | hy
      · exact ⟨hq.1.1, by omega⟩
      · rcases List.mem_cons.mp hy with rfl | hy
        · exact ⟨hq.1.2, by omega⟩
        · exact hr y hy
    | or a b =>
      intro x hx
      simp [onw] at hx
      simp [thOk, Pat.good, Pat.dep] at hq
      rcases hx with rfl | rfl
      · refine ⟨fun y hy => ?_, by simp, hk⟩
        rcases List.mem_cons.mp hy with rfl | hy
        · exact ⟨hq.1.1, by omega⟩
        · exact hr y hy
      · refine ⟨fun y hy => ?_, by simp, hk⟩
        rcases List.mem_cons.mp hy with rfl | hy
        · exact ⟨hq.1.2, by omega⟩
        · exact hr y hy
    | more a =>
      intro x hx
      simp [onw] at hx
      have hq' := hq
      simp [thOk, Pat.good, Pat.dep] at hq
      rcases hx with rfl | rfl
      · refine ⟨fun y hy => ?_, by simp, hk⟩
        rcases List.mem_cons.mp hy with rfl | hy
        · exact ⟨hq.1, by omega⟩
        · rcases List.mem_cons.mp hy with rfl | hy
          · exact hq'
          · exact hr y hy
      · exact ⟨hr, by simp; omega, hk⟩
    | less a =>
      intro x hx
      simp [onw] at hx
      have hq' := hq
      simp [thOk, Pat.good, Pat.dep] at hq
      rcases hx with rfl | rfl
      · exact ⟨hr, by simp; omega, hk⟩
      · refine ⟨fun y hy => ?_, by simp, hk⟩
        rcases List.mem_cons.mp hy with rfl | hy
        · exact ⟨hq.1, by omega⟩
        · rcases List.mem_cons.mp hy with rfl | hy
          · exact hq'
          · exact hr y hy
    | group n a =>
      intro x hx
      simp [onw] at hx
      subst hx
      simp [thOk, Pat.good, Pat.dep] at hq
      refine ⟨fun y hy => ?_, by simp, hk⟩
      rcases List.mem_cons.mp hy with rfl | hy
      · exact ⟨hq.1, by omega⟩
      · rcases List.mem_cons.mp hy with rfl | hy
        · exact hd
        · exact hr y hy
theorem eq_self (ds : List PyData) (h1 : ∀ d ∈ ds, d.canLay0 = true) (h2 : ∀ d ∈ ds, d.depth ≤ 63) : fEq (.list ds) (.list ds) = some true := by
  rw [fEq_l _ _ (shaped_list h1 h2) (shaped_list h1 h2)]
  rw [SeqAt.eqv_refl _ (by rw [PyData.canLay0]; exact canLayAll_of h1)]
theorem eq_selfT (ds : List PyData) (h1 : (PyData.tuple ds).canLay0 = true) (h2 : (PyData.tuple ds).depth ≤ 64) : fEq (.tuple ds) (.tuple ds) = some true := by
  have a : SeqAt.shaped (.tuple ds) = true := by
    unfold SeqAt.shaped
    rw [h1, decide_eq_true h2]
    rfl
  rw [fEq_t _ _ a a]
  rw [SeqAt.eqv_refl _ h1]
theorem is_state_ok (x : List Th × Nat) : F__law_is_state [st x] = .ok (.dat (.bool true)) := by
  unfold F__law_is_state runF g__law_is_state
  simp [st]
end GM

namespace GM
open PySem PySem.Spec L2
theorem wipe13 {a b c d e f g h i j k l m n : Sl} : wipeE [a, b, c, d, e, f, g, h, i, j, k, l, m, n] [13] = [a, b, c, d, e, f, g, h, i, j, k, l, m, .emp] := rfl
theorem lc_none (a b c d e f g h i j k l m : Sl) : ∀ xs : List (List Th × Nat), lcL (gtN 13) (tNotD (tVal (frz (sCall F__law_is_state (dCons (dVar 13) dNil))))) (dVar 13) [13] [a, b, c, d, e, f, g, h, i, j, k, l, m, .emp] (xs.map st) = some [] := by
  intro xs
  induction xs with
  | nil => rfl
  | cons x xs ih =>
    rw [List.map_cons, lcL]
    simp [is_state_ok, wipe13, ih]
theorem ne_nil : fNe (.list []) (.list []) = some false := by
  have h := eq_self [] (by simp) (by simp)
  simp [fNe, h]
theorem step_ok (t : Str) (ht : t.length ≤ 1000) (z h p u c k bits due fnd last : Sl) (rs : List Th) (pl : Nat) (hd : ∀ y ∈ rs, thOk 40 y) (hl : rs.length ≤ 1000) (hk : pl ≤ t.length) (bit : Int) :
    (∃ r2, b_law_1 [z, h, p, u, .dat (.str t), c, k, bits, .dat (st (rs, pl)), .dat (.int bit), due, fnd, last, .emp] = .ok (.rt (.dat (.bool true))) r2) ∨
    (∃ y ∈ onw t rs pl, ∃ d2 f2 l2 : Sl, b_law_1 [z, h, p, u, .dat (.str t), c, k, bits, .dat (st (rs, pl)), .dat (.int bit), due, fnd, last, .emp] = .ok .nx [z, h, p, u, .dat (.str t), c, k, bits, .dat (st y), .dat (.int bit), d2, f2, l2, .emp]) := by
  have hz := szl
  have ht' : t.length ≤ 16777216 := by omega
  have k1 := due_ok rs pl t ht hk (by omega)
  have k2 := onward_ok rs pl t ht (by omega)
  have k3 := is_end_ok rs pl t ht
  have ho := onw_ok t rs pl (by decide) hd hk
  have hq : fEq (.list ((onw t rs pl).map st)) (.list ((onw t rs pl).map st)) = some true := eq_self _ (fun d hd => by
    obtain ⟨y, hy, rfl⟩ := List.mem_map.mp hd
    exact (st_lay y (ho _ hy).1).1) (fun d hd => by
    obtain ⟨y, hy, rfl⟩ := List.mem_map.mp hd
    have := (st_lay y (ho _ hy).1).2
    omega)
  have hq2 : fNe (.list ((onw t rs pl).map st)) (.list ((onw t rs pl).map st)) = some false := by simp [fNe, hq]
  have hsz : (onw t rs pl).length ≤ 16777216 := by
    match rs with
    | [] => simp [onw]
    | .c n :: r => simp [onw]
    | .p q :: r => cases q <;> (try split) <;> simp [onw] <;> (try split) <;> simp
  have i1 : fIx (st (rs, pl)) (.int 0) = some (.tuple (rs.map encT)) := rfl
  have i2 : fIx (st (rs, pl)) (.int 1) = some (.int pl) := rfl
  have hT0 : (rs.map encT = []) = (rs = []) := by simp
  generalize rs.map encT = T at k1 i1 hT0
  generalize st (rs, pl) = S at k2 k3 i1 i2
  by_cases hn : onw t rs pl = []
  · refine .inl ⟨[z, h, p, u, .dat (.str t), c, k, bits, .dat S, .dat (.int bit), .dat (.list []), .dat (.list []), .dat (.bool (decide (rs = [] ∧ pl = t.length))), .emp], ?_⟩
    rw [hn] at k1 k2 hq2
    simp only [List.map_nil] at k1 k2
    by_cases hrs : rs = []
    · simp only [hrs, eq_iff_iff, iff_true] at hT0
      subst hT0
      by_cases hpl : pl = t.length
      · subst hpl
        simp [hrs] at k3
        simp [b_law_1, k1, k2, k3, hz, ht', i1, i2, dLc, wipe13, lcL, ne_nil, boolD, hrs]
      · simp [hrs, hpl] at k3
        have hcs : ¬ (pl : Int) = (t.length : Nat) := by omega
        simp [hcs, b_law_1, k1, k2, k3, hz, ht', i1, i2, dLc, wipe13, lcL, ne_nil, boolD, hrs, hpl]
    · simp [hrs] at k3 hT0
      simp [b_law_1, k1, k2, k3, hz, ht', i1, i2, dLc, wipe13, lcL, ne_nil, boolD, hT0, hrs]
  · have hpos : 0 < (onw t rs pl).length := by
      cases hx : onw t rs pl with
      | nil => exact absurd hx hn
      | cons _ _ => simp
    obtain ⟨y, hy2, hat⟩ := atI_mod ((onw t rs pl).map st) (onw t rs pl).length bit (by simp) hpos
    obtain ⟨y, hy, rfl⟩ := List.mem_map.mp hy2
    clear hy2
    refine .inr ⟨y, hy, .dat (.list ((onw t rs pl).map st)), .dat (.list ((onw t rs pl).map st)), .dat (.bool (decide (rs = [] ∧ pl = t.length))), ?_⟩
    have hne : ¬ ((onw t rs pl).length : Int) = 0 := by omega
    have hlc := fun b => lc_none z h p u (.dat (.str t)) c k bits (.dat S) (.dat (.int bit)) (.own ((onw t rs pl).map st)) (.dat (.list ((onw t rs pl).map st))) (.dat (.bool b)) (onw t rs pl)
    have hrs : ¬ rs = [] := fun e => by
      subst e
      exact hn rfl
    have hLn : ((onw t rs pl).map st).length = (onw t rs pl).length := by simp
    generalize (onw t rs pl).map st = L at *
    by_cases hpl : pl = t.length
    · subst hpl
      simp [hrs] at k3 hT0
      simp [b_law_1, k1, k2, k3, hz, ht', i1, i2, dLc, wipe13, hlc, ne_nil, hq2, hLn, hsz, boolD, hne, hat, hpos, hT0, hrs, hn]
    · simp [hrs, hpl] at k3 hT0
      simp [b_law_1, k1, k2, k3, hz, ht', i1, i2, dLc, wipe13, hlc, ne_nil, hq2, hLn, hsz, boolD, hne, hat, hpos, hT0, hrs, hpl, hn]
theorem walk_ok (t : Str) (ht : t.length ≤ 1000) (z h p u c k bits : Sl) : ∀ (bs : List Int) (rs : List Th) (pl : Nat) (a due fnd last : Sl), (∀ y ∈ rs, thOk 40 y) → rs.length + bs.length ≤ 1000 → pl ≤ t.length → ∃ r2, forL (gtN 9) b_law_1 (bs.map PyData.int) [z, h, p, u, .dat (.str t), c, k, bits, .dat (st (rs, pl)), a, due, fnd, last, .emp] = .ok (.rt (.dat (.bool true))) r2 ∨ forL (gtN 9) b_law_1 (bs.map PyData.int) [z, h, p, u, .dat (.str t), c, k, bits, .dat (st (rs, pl)), a, due, fnd, last, .emp] = .ok .nx r2 := by
  intro bs
  induction bs with
  | nil => intro rs pl a due fnd last _ _ _; exact ⟨_, .inr rfl⟩
  | cons b bs ih =>
    intro rs pl a due fnd last hd hl hk
    rw [List.length_cons] at hl
    have hs := step_ok t ht z h p u c k bits due fnd last rs pl hd (by omega) hk b
    have ho := onw_ok t rs pl (by decide) hd hk
    rcases hs with ⟨r2, h1⟩ | ⟨⟨y1, y2⟩, hy, d2, f2, l2, h1⟩
    · refine ⟨r2, .inl ?_⟩
      rw [List.map_cons, forL]
      simp [h1]
    · obtain ⟨o1, o2, o3⟩ := ho _ hy
      obtain ⟨r2, h2⟩ := ih y1 y2 (.dat (.int b)) d2 f2 l2 o1 (by have : y1.length ≤ rs.length + 1 := o2; omega) o3
      refine ⟨r2, ?_⟩
      rw [List.map_cons, forL]
      simpa [h1] using h2
theorem law_ok (ns : List Int) (h : ns.length ≤ 63) : F_law [intL ns] = .ok (.dat (.bool true)) := by
  obtain ⟨i, hi⟩ := cell_at_ok ns 0
  have hi' : F__law_cell_at [intL ns, .int 0] = .ok (.dat (.int i)) := hi
  obtain ⟨j, hj⟩ := cell_at_ok ns 1
  have hj' : F__law_cell_at [intL ns, .int 1] = .ok (.dat (.int j)) := hj
  have l1 : (cutL ns (some 2) (some 18)).length ≤ 16 := cutL_nat ns 2 18
  obtain ⟨p, hp, p1, p2, p3⟩ := made_ok (cutL ns (some 2) (some 18)) i (by omega)
  have hp' : F__law_made [.list ((cutL ns (some 2) (some 18)).map PyData.int), .int i] = .ok (.dat (enc p)) := hp
  have e1 : dSl (dVar 0) (oSome (dC (.int 2))) (oSome (dC (.int 18))) [.dat (intL ns), .dat (.int i), .emp, .emp, .emp, .emp, .emp, .emp, .emp, .emp, .emp, .emp, .emp, .emp] = .ok (.own ((cutL ns (some 2) (some 18)).map PyData.int)) [.dat (intL ns), .dat (.int i), .emp, .emp, .emp, .emp, .emp, .emp, .emp, .emp, .emp, .emp, .emp, .emp] := by
    simp [intL, cutL_map]
  have hr1 : -(4611686018427387904 : Int) ≤ j % 10 := by omega
  have hr2 : j % 10 < 4611686018427387904 := by omega
  obtain ⟨t, c', k', ht, htl⟩ := text_loop (.dat (intL ns)) (.dat (.int i)) (.dat (enc p)) (.dat (.int j)) .emp i rfl (rng (j % 10).toNat) "" (j / 10) .emp (by simp [rng]; have : ("" : Str).length = 0 := rfl; omega)
  have hl0 : ("" : Str).length = 0 := rfl
  simp [rng, hl0] at htl
  obtain ⟨bs, hbs, hbl⟩ := bits_ok ns
  have hth : ∀ y ∈ [Th.p p], thOk 40 y := fun y hy => by
    simp at hy
    subst hy
    exact ⟨p3, by omega⟩
  have hfs := first_state_ok p
  have hst : fNe (st ([.p p], 0)) (.tuple [.tuple [enc p], .int 0]) = some false := by
    have := st_lay ([Th.p p], 0) hth
    have e : fEq (st ([.p p], 0)) (st ([.p p], 0)) = some true := eq_selfT _ this.1 (by have := this.2; exact Nat.le_trans this (by decide))
    have e2 : st ([.p p], 0) = .tuple [.tuple [enc p], .int 0] := rfl
    rw [← e2]
    simp [fNe, e]
  have his := is_state_ok ([.p p], 0)
  obtain ⟨r2, hw⟩ := walk_ok t (by omega) (.dat (intL ns)) (.dat (.int i)) (.dat (enc p)) (.dat (.int j)) (.dat (.int c')) k' (.dat (.list (bs.map PyData.int))) bs [.p p] 0 .emp .emp .emp .emp hth (by simp; omega) (Nat.zero_le _)
  unfold F_law runF g_law t_law_0 t_law_1 t_law_2 t_law_3 t_law_4 t_law_5 t_law_6 t_law_7 t_law_8 t_law_9 t_law_10
  rcases hw with hw | hw
  · simp [e1, -dSl, hi', hj', hp', hr1, hr2, ht, hbs, hfs, his, hst, hw]
  · simp [e1, -dSl, hi', hj', hp', hr1, hr2, ht, hbs, hfs, his, hst, hw]
end GM

open PySem PySem.W PyProof.Rows
set_option maxHeartbeats 0 in
theorem PySem.Challenge.cw_groupmarks_k04_where_a_state_leads_holds : PySem.Challenge.rw_groupmarks_k04_where_a_state_leads.Holds := by
  w_on; o_law; k_head; (case hw => w_witness2)
  k_fill
  refine L2.walk_of (l := PySem.Challenge.rw_groupmarks_k04_where_a_state_leads) (n := 63) (k := 4) (x := "_law_script") (CX := fun w => L2.CX (PySem.Challenge.rw_groupmarks_k04_where_a_state_leads).prog w) (sp := fun w => GM.spD _ (fun _ => 0) 1 GM.F_law) rfl (by decide) rfl ⟨rfl, by decide, by decide⟩ (fun w h Y => PySem.W.kIn_of Y) ?F (fun _ H a ns hl _ hS => GM.law_sp hS (GM.law_ok ns hl)) (fun _ _ _ _ _ z => GM.no_cx z)
  case F =>
    intro w mg fa h KX G hmg
    refine' GM.all_mk KX G hmg ?a0 ?l0 ?c0 ?k0 ?a1 ?l1 ?c1 ?k1 ?a2 ?l2 ?c2 ?k2 ?a3 ?l3 ?c3 ?k3 ?a4 ?l4 ?c4 ?k4 ?a5 ?l5 ?c5 ?k5 ?a6 ?l6 ?c6 ?k6 ?a7 ?l7 ?c7 ?k7 ?a8 ?l8 ?c8 ?k8 ?a9 ?l9 ?c9 ?k9 ?a10 ?l10 ?c10 ?k10 ?a11 ?l11 ?c11 ?k11 ?a12 ?l12 ?c12 ?k12 ?a13 ?l13 ?c13 ?k13 ?z_len ?z_isinstance ?z_reversed ?z_range ?z_zip ?z_bool ?z_int ?z_str ?z_tuple ?z_list ?z_dict ?z_set
    (case a0 => k_is); (case l0 => k_is); (case c0 => k_is); (case k0 => k_is); (case a1 => k_is); (case l1 => k_is); (case c1 => k_is); (case k1 => k_is); (case a2 => k_is); (case l2 => k_is); (case c2 => k_is); (case k2 => k_is); (case a3 => k_is); (case l3 => k_is); (case c3 => k_is); (case k3 => k_is); (case a4 => k_is); (case l4 => k_is); (case c4 => k_is); (case k4 => k_is); (case a5 => k_is); (case l5 => k_is); (case c5 => k_is); (case k5 => k_is); (case a6 => k_is); (case l6 => k_is); (case c6 => k_is); (case k6 => k_is); (case a7 => k_is); (case l7 => k_is); (case c7 => k_is); (case k7 => k_is); (case a8 => k_is); (case l8 => k_is); (case c8 => k_is); (case k8 => k_is); (case a9 => k_is); (case l9 => k_is); (case c9 => k_is); (case k9 => k_is); (case a10 => k_is); (case l10 => k_is); (case c10 => k_is); (case k10 => k_is); (case a11 => k_is); (case l11 => k_is); (case c11 => k_is); (case k11 => k_is); (case a12 => k_is); (case l12 => k_is); (case c12 => k_is); (case k12 => k_is); (case a13 => k_is); (case l13 => k_is); (case c13 => k_is); (case k13 => k_is); (case z_len => k_is); (case z_isinstance => k_is); (case z_reversed => k_is); (case z_range => k_is); (case z_zip => k_is); (case z_bool => k_is); (case z_int => k_is); (case z_str => k_is); (case z_tuple => k_is); (case z_list => k_is); (case z_dict => k_is); (case z_set => k_is)
