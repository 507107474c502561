import PyProof.Rows.All
import Wide.All
import OpenK.AllK
import Wide.FinOn
import HandS.ForMost
import HandS.IsInst
import HandS.Wide
import HandS.WideMore
import HandS.Zip
import HandS.Flow
import HandS.Defaults
import HandS.TupAny
import HandS.Style
import KE.KUnpackStar
import HandS.TryOnly
import PySem.Challenge.RW_brookworks_k02_numbers_reckoned
set_option Elab.async false
set_option linter.all false
set_option maxRecDepth 100000
set_option maxHeartbeats 4000000
/-! Bw: an evaluator over plain data for defs that keep no objects but lists of their own, and its soundness over the layer. -/
namespace Bw
open PySem L2

abbrev D := PyData
/-- what a slot holds: nothing known, data, a list of the def's own (nobody else holds it), a list that was handed in to be changed -/
inductive Sl where
  | un | dat (d : D) | own (ds : List D) | bor (n : Nat)
structure S where
  g : List Sl
  b : List (List D)
structure Xc where
  cls : Str
  fs : List (Str × D)
inductive Res (α : Type) where
  | ok (a : α) (s : S) | exc (x : Xc) (b : List (List D)) | bad
section
variable {α β : Type}
def bnd (m : S → Res α) (f : α → S → Res β) : S → Res β := fun s => match m s with
  | .ok a s' => f a s'
  | .exc x b => .exc x b
  | .bad => .bad
def ret (a : α) : S → Res α := fun s => .ok a s
def fail : S → Res α := fun _ => .bad
def lift (o : Option α) : S → Res α := fun s => match o with
  | some a => .ok a s
  | none => .bad
theorem bnd_ok {m : S → Res α} {f : α → S → Res β} {s s2 : S} {b : β} (h : bnd m f s = .ok b s2) : ∃ a s1, m s = .ok a s1 ∧ f a s1 = .ok b s2 := by
  unfold bnd at h
  cases e : m s with
  | ok a s1 => rw [e] at h; exact ⟨a, s1, rfl, h⟩
  | exc x b => rw [e] at h; cases h
  | bad => rw [e] at h; cases h
theorem lift_ok {o : Option α} {s s2 : S} {a : α} (h : lift o s = .ok a s2) : o = some a ∧ s2 = s := by
  unfold lift at h
  cases o with
  | none => cases h
  | some b => cases h; exact ⟨rfl, rfl⟩
theorem ret_ok {a b : α} {s s2 : S} (h : ret a s = .ok b s2) : b = a ∧ s2 = s := by
  unfold ret at h; cases h; exact ⟨rfl, rfl⟩
end

/-! ### heaps and data -/
mutual
/-- a value that is data d by the heap: lists that are tracked, tuples that are tracked or written -/
inductive Dt (K : PySem.W.Frag) (H : Hp) : V → D → Prop
  | non : Dt K H .non .none
  | bl (b : Bool) : Dt K H (.bl b) (.bool b)
  | int (i : Int) : Dt K H (.int i) (.int i)
  | str (x : Str) : Dt K H (.str x) (.str x)
  | lst {a : Addr} {xs : List V} {ds : List D} : SqL K H a xs → DtAll K H xs ds → Dt K H (.ref a) (.list ds)
  | tup {a : Addr} {xs : List V} {ds : List D} : SqT K H a xs → DtAll K H xs ds → Dt K H (.ref a) (.tuple ds)
inductive DtAll (K : PySem.W.Frag) (H : Hp) : List V → List D → Prop
  | nil : DtAll K H [] []
  | cons {v : V} {vs : List V} {d : D} {ds : List D} : Dt K H v d → DtAll K H vs ds → DtAll K H (v :: vs) (d :: ds)
end
theorem rd_mono {H H' : Hp} (e : Same H H') {a : Addr} {o : HO} (h : Rd H a o) : Rd H' a o := by
  rcases h with h | ⟨u, h⟩
  · exact .inl (e _ _ h)
  · exact .inr ⟨u, e _ _ h⟩
mutual
theorem Dt.dp {K : PySem.W.Frag} {H : Hp} : ∀ (d : D) {v : V}, Dt K H v d → Dp K H v d
  | .none, _, h => by cases h; exact .non
  | .bool b, _, h => by cases h; exact .bl b
  | .int i, _, h => by cases h; exact .int i
  | .str x, _, h => by cases h; exact .str x
  | .list ds, _, h => by cases h with | lst h1 h2 => exact .lst h1 (DtAll.dp ds h2)
  | .tuple ds, _, h => by cases h with | tup h1 h2 => exact .tup h1 (DtAll.dp ds h2)
  | .dict kvs, _, h => by cases h
theorem DtAll.dp {K : PySem.W.Frag} {H : Hp} : ∀ (ds : List D) {vs : List V}, DtAll K H vs ds → DpAll K H vs ds
  | [], _, h => by cases h; exact .nil
  | d :: ds, _, h => by cases h with | cons h1 h2 => exact .cons (Dt.dp d h1) (DtAll.dp ds h2)
end
section
variable {K : PySem.W.Frag} {I I' H H' : Hp}
theorem sqT_mono (e : Same H H') {a : Addr} {xs : List V} (h : SqT K H a xs) : SqT K H' a xs := by
  rcases h with (h | ⟨o, h⟩) | h
  · exact .inl (.inl (e _ _ h))
  · exact .inl (.inr ⟨o, e _ _ h⟩)
  · exact .inr h
mutual
theorem dp_mono (e : Same H H') : ∀ (d : D) {v : V}, Dt K H v d → Dt K H' v d
  | .none, _, h => by cases h; exact .non
  | .bool b, _, h => by cases h; exact .bl b
  | .int i, _, h => by cases h; exact .int i
  | .str x, _, h => by cases h; exact .str x
  | .list ds, _, h => by cases h with | lst h1 h2 => exact .lst (e.seq h1) (dps_mono e ds h2)
  | .tuple ds, _, h => by cases h with | tup h1 h2 => exact .tup (sqT_mono e h1) (dps_mono e ds h2)
  | .dict kvs, _, h => by cases h
theorem dps_mono (e : Same H H') : ∀ (ds : List D) {vs : List V}, DtAll K H vs ds → DtAll K H' vs ds
  | [], _, h => by cases h; exact .nil
  | d :: ds, _, h => by cases h with | cons h1 h2 => exact .cons (dp_mono e d h1) (dps_mono e ds h2)
end
theorem dps_len : ∀ {vs : List V} {ds : List D}, DtAll K H vs ds → vs.length = ds.length
  | _, _, .nil => rfl
  | _, _, .cons _ h => congrArg Nat.succ (dps_len h)
theorem dps_get : ∀ {vs : List V} {ds : List D} {i : Nat} {d : D}, DtAll K H vs ds → ds[i]? = some d → ∃ v, vs[i]? = some v ∧ Dt K H v d
  | _, _, _, _, .nil, e => by simp at e
  | _, _, 0, _, .cons h _, e => by simp at e; subst e; exact ⟨_, rfl, h⟩
  | _, _, i + 1, d, .cons _ t, e => by
    obtain ⟨v, h1, h2⟩ := dps_get (i := i) (d := d) t (by simpa using e)
    exact ⟨v, by simpa using h1, h2⟩
theorem dps_get' : ∀ {vs : List V} {ds : List D} {i : Nat} {v : V}, DtAll K H vs ds → vs[i]? = some v → ∃ d, ds[i]? = some d ∧ Dt K H v d
  | _, _, _, _, .nil, e => by simp at e
  | _, _, 0, _, .cons h _, e => by simp at e; subst e; exact ⟨_, rfl, h⟩
  | _, _, i + 1, v, .cons _ t, e => by
    obtain ⟨d, h1, h2⟩ := dps_get' (i := i) (v := v) t (by simpa using e)
    exact ⟨d, by simpa using h1, h2⟩
theorem dps_append : ∀ {vs ws : List V} {ds es : List D}, DtAll K H vs ds → DtAll K H ws es → DtAll K H (vs ++ ws) (ds ++ es)
  | _, _, _, _, .nil, s => s
  | _, _, _, _, .cons r t, s => .cons r (dps_append t s)
theorem dps_set : ∀ {vs : List V} {ds : List D} (i : Nat) {v : V} {d : D}, DtAll K H vs ds → Dt K H v d → DtAll K H (vs.set i v) (ds.set i d)
  | _, _, _, _, _, .nil, _ => .nil
  | _, _, 0, _, _, .cons _ t, h => .cons h t
  | _, _, i + 1, _, _, .cons r t, h => .cons r (dps_set i t h)
theorem dps_take : ∀ {vs : List V} {ds : List D} (n : Nat), DtAll K H vs ds → DtAll K H (vs.take n) (ds.take n)
  | _, _, 0, _ => .nil
  | _, _, _ + 1, .nil => .nil
  | _, _, n + 1, .cons r t => .cons r (dps_take n t)
theorem dps_drop : ∀ {vs : List V} {ds : List D} (n : Nat), DtAll K H vs ds → DtAll K H (vs.drop n) (ds.drop n)
  | _, _, 0, r => r
  | _, _, _ + 1, .nil => .nil
  | _, _, n + 1, .cons _ t => dps_drop n t
theorem same_new {p : Addr} (h : H p = none) (o : HO) : Same H (upd H p o) := fun b u q => by rw [upd_ne (ne_of_none q h)]; exact q
theorem same_upd2 {p : Addr} {o : HO} (e : Same I H) (hI : I p = none) : Same I (upd H p o) := fun b u q => by rw [upd_ne (ne_of_none q hI)]; exact e _ _ q
theorem same_both {p : Addr} {o : HO} (e : Same I H) : Same (upd I p o) (upd H p o) := fun b u q => by
  by_cases h : b = p
  · subst h; rw [upd_same] at q ⊢; exact q
  · rw [upd_ne h] at q ⊢; exact e _ _ q
end

/-! ### a def's run: what stood at its start, the lists handed in -/
structure Fx where
  I0 : Hp
  H0 : Hp
  bs : List Addr
structure Rel (K : PySem.W.Frag) (F : Fx) (I H : Hp) (σ : St) (s : S) : Prop where
  le : Same I H
  le0 : Same F.I0 I
  keep : ∀ (a : Addr) (o : HO), a ∉ F.bs → F.H0 a = some o → H a = some o
  new : ∀ (a : Addr) (o : HO), F.H0 a = some o → F.I0 a = none → I a = none
  dat : ∀ (i : Nat) (d : D), s.g[i]? = some (Sl.dat d) → ∃ v : V, σ[i]? = some (some v) ∧ Dt K I v d
  own : ∀ (i : Nat) (ds : List D), s.g[i]? = some (Sl.own ds) → ∃ (a : Addr) (vs : List V), σ[i]? = some (some (V.ref a)) ∧ F.H0 a = none ∧ I a = none ∧ a ∉ F.bs ∧ H a = some (.lst vs) ∧ DtAll K I vs ds
  ownd : ∀ (i j : Nat) (a : Addr) (ds es : List D), i ≠ j → s.g[i]? = some (Sl.own ds) → s.g[j]? = some (Sl.own es) → σ[i]? = some (some (V.ref a)) → σ[j]? ≠ some (some (V.ref a))
  bor : ∀ (i n : Nat), s.g[i]? = some (Sl.bor n) → ∃ a : Addr, σ[i]? = some (some (V.ref a)) ∧ F.bs[n]? = some a
  bs : ∀ (n : Nat) (a : Addr), F.bs[n]? = some a → ∃ (vs : List V) (ds : List D), s.b[n]? = some ds ∧ I a = none ∧ H a = some (.lst vs) ∧ DtAll K I vs ds
  nd : F.bs.Nodup
  len : s.g.length = σ.length
  blen : s.b.length = F.bs.length

section
variable {K : PySem.W.Frag} {F : Fx} {I I' H H' : Hp} {σ : St} {s : S}
theorem Rel.notbs (R : Rel K F I H σ s) {a : Addr} {o : HO} (h : I a = some o) : a ∉ F.bs := fun hm => by
  obtain ⟨n, hn, e⟩ := List.getElem_of_mem hm
  obtain ⟨vs, ds, _, h2, _⟩ := R.bs n a (by rw [List.getElem?_eq_getElem hn, e])
  rw [h] at h2; cases h2
theorem Rel.bsAt (R : Rel K F I H σ s) {a : Addr} (hm : a ∈ F.bs) : ∃ (n : Nat) (vs : List V) (ds : List D), F.bs[n]? = some a ∧ s.b[n]? = some ds ∧ I a = none ∧ H a = some (.lst vs) ∧ DtAll K I vs ds := by
  obtain ⟨n, hn, e⟩ := List.getElem_of_mem hm
  have e' : F.bs[n]? = some a := by rw [List.getElem?_eq_getElem hn, e]
  obtain ⟨vs, ds, h1, h2, h3, h4⟩ := R.bs n a e'
  exact ⟨n, vs, ds, e', h1, h2, h3, h4⟩
/-- a fresh place is none of those at the start -/
theorem Rel.fresh0 (R : Rel K F I H σ s) {p : Addr} (h : H p = none) : F.H0 p = none := by
  cases q : F.H0 p with
  | none => rfl
  | some o =>
    by_cases hb : p ∈ F.bs
    · obtain ⟨_, _, _, _, _, _, h3, _⟩ := R.bsAt hb
      rw [h] at h3; cases h3
    · rw [R.keep p o hb q] at h; cases h
theorem Rel.freshI (R : Rel K F I H σ s) {p : Addr} (h : H p = none) : I p = none := R.le.free h
theorem Rel.freshB (R : Rel K F I H σ s) {p : Addr} (h : H p = none) : p ∉ F.bs := fun hb => by
  obtain ⟨_, _, _, _, _, _, h3, _⟩ := R.bsAt hb
  rw [h] at h3; cases h3
/-- something new that is never changed is laid -/
theorem Rel.lay (R : Rel K F I H σ s) {p : Addr} {o : HO} (h : H p = none) : Rel K F (upd I p o) (upd H p o) σ s := by
  have hI := R.freshI h
  have sI : Same I (upd I p o) := same_new hI o
  refine ⟨same_both R.le, R.le0.trans sI, fun a u hb q => ?_, fun a u q1 q2 => ?_, fun i d e => ?_, fun i ds e => ?_, R.ownd, R.bor, fun n a e => ?_, R.nd, R.len, R.blen⟩
  · have := R.keep a u hb q
    rw [upd_ne (ne_of_none this h)]; exact this
  · have hp := R.fresh0 h
    rw [upd_ne (ne_of_none q1 hp)]; exact R.new a u q1 q2
  · obtain ⟨v, h1, h2⟩ := R.dat i d e
    exact ⟨v, h1, dp_mono sI d h2⟩
  · obtain ⟨a, vs, h1, h2, h3, h4, h5, h6⟩ := R.own i ds e
    have hne : a ≠ p := ne_of_none h5 h
    exact ⟨a, vs, h1, h2, by rw [upd_ne hne]; exact h3, h4, by rw [upd_ne hne]; exact h5, dps_mono sI ds h6⟩
  · obtain ⟨vs, ds, h1, h2, h3, h4⟩ := R.bs n a e
    have hne : a ≠ p := ne_of_none h3 h
    exact ⟨vs, ds, h1, by rw [upd_ne hne]; exact h2, by rw [upd_ne hne]; exact h3, dps_mono sI ds h4⟩
/-- something new that may be changed later is laid (nobody holds it yet) -/
theorem Rel.layO (R : Rel K F I H σ s) {p : Addr} {o : HO} (h : H p = none) : Rel K F I (upd H p o) σ s := by
  have hI := R.freshI h
  refine ⟨same_upd2 R.le hI, R.le0, fun a u hb q => ?_, R.new, R.dat, fun i ds e => ?_, R.ownd, R.bor, fun n a e => ?_, R.nd, R.len, R.blen⟩
  · have := R.keep a u hb q
    rw [upd_ne (ne_of_none this h)]; exact this
  · obtain ⟨a, vs, h1, h2, h3, h4, h5, h6⟩ := R.own i ds e
    have hne : a ≠ p := ne_of_none h5 h
    exact ⟨a, vs, h1, h2, h3, h4, by rw [upd_ne hne]; exact h5, h6⟩
  · obtain ⟨vs, ds, h1, h2, h3, h4⟩ := R.bs n a e
    have hne : a ≠ p := ne_of_none h3 h
    exact ⟨vs, ds, h1, h2, by rw [upd_ne hne]; exact h3, h4⟩
/-- a list that nobody holds in a slot is held for good -/
theorem Rel.seal (R : Rel K F I H σ s) {p : Addr} {o : HO} (h : H p = some o) (h0 : F.H0 p = none) (hI : I p = none) (hb : p ∉ F.bs) (hn : ∀ (i : Nat) (ds : List D), s.g[i]? = some (Sl.own ds) → σ[i]? ≠ some (some (V.ref p))) : Rel K F (upd I p o) H σ s := by
  have sI : Same I (upd I p o) := same_new hI o
  refine ⟨fun b u q => ?_, R.le0.trans sI, R.keep, fun a u q1 q2 => ?_, fun i d e => ?_, fun i ds e => ?_, R.ownd, R.bor, fun n a e => ?_, R.nd, R.len, R.blen⟩
  · by_cases hbp : b = p
    · subst hbp; rw [upd_same] at q; cases q; exact h
    · rw [upd_ne hbp] at q; exact R.le _ _ q
  · rw [upd_ne (ne_of_none q1 h0)]; exact R.new a u q1 q2
  · obtain ⟨v, h1, h2⟩ := R.dat i d e
    exact ⟨v, h1, dp_mono sI d h2⟩
  · obtain ⟨a, vs, h1, h2, h3, h4, h5, h6⟩ := R.own i ds e
    have hne : a ≠ p := fun z => hn i ds e (by rw [h1, z])
    exact ⟨a, vs, h1, h2, by rw [upd_ne hne]; exact h3, h4, h5, dps_mono sI ds h6⟩
  · obtain ⟨vs, ds, h1, h2, h3, h4⟩ := R.bs n a e
    have hne : a ≠ p := fun z => hb (by rw [← z]; exact List.mem_of_getElem? e)
    exact ⟨vs, ds, h1, by rw [upd_ne hne]; exact h2, h3, dps_mono sI ds h4⟩
theorem gset {α : Type} {l : List α} {i j : Nat} {x y : α} (h : (l.set i x)[j]? = some y) : (i = j ∧ y = x) ∨ (i ≠ j ∧ l[j]? = some y) := by
  by_cases e : i = j
  · subst e
    by_cases hl : i < l.length
    · rw [List.getElem?_set_self hl] at h; exact .inl ⟨rfl, (Option.some.inj h).symm⟩
    · rw [List.getElem?_eq_none (by simpa using hl)] at h; cases h
  · rw [List.getElem?_set_ne e] at h; exact .inr ⟨e, h⟩
/-- a slot is stored: data -/
theorem Rel.setD (R : Rel K F I H σ s) (i : Nat) {v : V} {d : D} (hv : Dt K I v d) : Rel K F I H (σ.set i (some v)) { s with g := s.g.set i (.dat d) } := by
  have len := R.len
  refine ⟨R.le, R.le0, R.keep, R.new, fun j d' e => ?_, fun j ds e => ?_, fun j k a ds es hjk e1 e2 e3 => ?_, fun j n e => ?_, R.bs, R.nd, by simpa using len, R.blen⟩
  · rcases gset e with ⟨rfl, e'⟩ | ⟨hne, e⟩
    · cases e'
      have hl : i < σ.length := by
        have := (List.getElem?_eq_some_iff.mp (show (s.g.set i (.dat d))[i]? = some (.dat d) from by assumption)).1
        simp at this; omega
      exact ⟨v, List.getElem?_set_self hl, hv⟩
    · obtain ⟨u, h1, h2⟩ := R.dat j d' e
      exact ⟨u, by rw [List.getElem?_set_ne hne]; exact h1, h2⟩
  · rcases gset e with ⟨rfl, e'⟩ | ⟨hne, e⟩
    · cases e'
    · obtain ⟨a, vs, h1, h2⟩ := R.own j ds e
      exact ⟨a, vs, by rw [List.getElem?_set_ne hne]; exact h1, h2⟩
  · rcases gset e1 with ⟨rfl, e'⟩ | ⟨hne, e1⟩
    · cases e'
    rcases gset e2 with ⟨rfl, e'⟩ | ⟨hne2, e2⟩
    · cases e'
    rw [List.getElem?_set_ne hne] at e3
    rw [List.getElem?_set_ne hne2]
    exact R.ownd j k a ds es hjk e1 e2 e3
  · rcases gset e with ⟨rfl, e'⟩ | ⟨hne, e⟩
    · cases e'
    · obtain ⟨a, h1, h2⟩ := R.bor j n e
      exact ⟨a, by rw [List.getElem?_set_ne hne]; exact h1, h2⟩
/-- a slot is stored: a list of its own -/
theorem Rel.setO (R : Rel K F I H σ s) (i : Nat) {a : Addr} {vs : List V} {ds : List D} (h0 : F.H0 a = none) (hI : I a = none) (hb : a ∉ F.bs) (hH : H a = some (.lst vs)) (hv : DtAll K I vs ds)
    (hn : ∀ (j : Nat) (es : List D), j ≠ i → s.g[j]? = some (Sl.own es) → σ[j]? ≠ some (some (V.ref a))) : Rel K F I H (σ.set i (some (.ref a))) { s with g := s.g.set i (.own ds) } := by
  have len := R.len
  have hl : ∀ {x y : Sl}, (s.g.set i x)[i]? = some y → i < σ.length := fun e => by
    have := (List.getElem?_eq_some_iff.mp e).1
    simp at this; omega
  refine ⟨R.le, R.le0, R.keep, R.new, fun j d' e => ?_, fun j es e => ?_, fun j k b es fs hjk e1 e2 e3 => ?_, fun j n e => ?_, R.bs, R.nd, by simpa using len, R.blen⟩
  · rcases gset e with ⟨rfl, e'⟩ | ⟨hne, e⟩
    · cases e'
    · obtain ⟨u, h1, h2⟩ := R.dat j d' e
      exact ⟨u, by rw [List.getElem?_set_ne hne]; exact h1, h2⟩
  · rcases gset e with ⟨rfl, e'⟩ | ⟨hne, e⟩
    · cases e'
      exact ⟨a, vs, List.getElem?_set_self (hl e), h0, hI, hb, hH, hv⟩
    · obtain ⟨b, ws, h1, h2⟩ := R.own j es e
      exact ⟨b, ws, by rw [List.getElem?_set_ne hne]; exact h1, h2⟩
  · rcases gset e1 with ⟨rfl, e⟩ | ⟨hne, e1'⟩
    · rcases gset e2 with ⟨z, _⟩ | ⟨hne2, e2'⟩
      · exact absurd z hjk
      rw [List.getElem?_set_self (hl e1)] at e3
      cases e3
      rw [List.getElem?_set_ne hne2]
      exact hn k fs (Ne.symm hne2) e2'
    · rw [List.getElem?_set_ne hne] at e3
      rcases gset e2 with ⟨rfl, e⟩ | ⟨hne2, e2'⟩
      · rw [List.getElem?_set_self (hl e2)]
        intro z; cases z
        exact hn j es (Ne.symm hne) e1' e3
      · rw [List.getElem?_set_ne hne2]
        exact R.ownd j k b es fs hjk e1' e2' e3
  · rcases gset e with ⟨rfl, e'⟩ | ⟨hne, e⟩
    · cases e'
    · obtain ⟨b, h1, h2⟩ := R.bor j n e
      exact ⟨b, by rw [List.getElem?_set_ne hne]; exact h1, h2⟩
/-- what is known of a slot may be forgotten -/
theorem Rel.setU (R : Rel K F I H σ s) (i : Nat) (x : Option V) : Rel K F I H (σ.set i x) { s with g := s.g.set i .un } := by
  refine ⟨R.le, R.le0, R.keep, R.new, fun j d' e => ?_, fun j ds e => ?_, fun j k a ds es hjk e1 e2 e3 => ?_, fun j n e => ?_, R.bs, R.nd, by simpa using R.len, R.blen⟩
  · rcases gset e with ⟨rfl, e'⟩ | ⟨hne, e⟩
    · cases e'
    · obtain ⟨u, h1, h2⟩ := R.dat j d' e
      exact ⟨u, by rw [List.getElem?_set_ne hne]; exact h1, h2⟩
  · rcases gset e with ⟨rfl, e'⟩ | ⟨hne, e⟩
    · cases e'
    · obtain ⟨a, vs, h1, h2⟩ := R.own j ds e
      exact ⟨a, vs, by rw [List.getElem?_set_ne hne]; exact h1, h2⟩
  · rcases gset e1 with ⟨rfl, e'⟩ | ⟨hne, e1⟩
    · cases e'
    rcases gset e2 with ⟨rfl, e'⟩ | ⟨hne2, e2⟩
    · cases e'
    rw [List.getElem?_set_ne hne] at e3
    rw [List.getElem?_set_ne hne2]
    exact R.ownd j k a ds es hjk e1 e2 e3
  · rcases gset e with ⟨rfl, e'⟩ | ⟨hne, e⟩
    · cases e'
    · obtain ⟨a, h1, h2⟩ := R.bor j n e
      exact ⟨a, by rw [List.getElem?_set_ne hne]; exact h1, h2⟩
end
end Bw

set_option Elab.async false
set_option linter.all false
set_option maxRecDepth 100000
set_option maxHeartbeats 4000000
namespace Bw
open PySem L2
section
variable {K : PySem.W.Frag} {F : Fx} {I I' H H' : Hp} {σ : St} {s : S}
/-- a list of the def's own is rewritten -/
theorem Rel.wrO (R : Rel K F I H σ s) {i : Nat} {ds es : List D} {a : Addr} {ws : List V} (hi : s.g[i]? = some (.own ds)) (ha : σ[i]? = some (some (.ref a))) (hw : DtAll K I ws es) :
    Rel K F I (upd H a (.lst ws)) σ { s with g := s.g.set i (.own es) } := by
  obtain ⟨a', vs, h1, h2, h3, h4, h5, h6⟩ := R.own i ds hi
  have e : a' = a := by rw [ha] at h1; cases h1; rfl
  subst e
  refine ⟨same_upd2 R.le h3, R.le0, fun b o hb q => ?_, R.new, fun j d e => ?_, fun j fs e => ?_, fun j k b fs gs hjk e1 e2 e3 => ?_, fun j n e => ?_, fun n b e => ?_, R.nd, by simpa using R.len, R.blen⟩
  · rw [upd_ne (ne_of_none q h2)]; exact R.keep b o hb q
  · rcases gset e with ⟨rfl, e'⟩ | ⟨hne, e⟩
    · cases e'
    · exact R.dat j d e
  · rcases gset e with ⟨rfl, e'⟩ | ⟨hne, e⟩
    · cases e'
      exact ⟨a', ws, h1, h2, h3, h4, upd_same, hw⟩
    · obtain ⟨b, us, k1, k2, k3, k4, k5, k6⟩ := R.own j fs e
      have hba : b ≠ a' := fun z => R.ownd i j a' ds fs hne hi e h1 (by rw [← z]; exact k1)
      exact ⟨b, us, k1, k2, k3, k4, by rw [upd_ne hba]; exact k5, k6⟩
  · have g1 : ∃ fs', s.g[j]? = some (.own fs') := by
      rcases gset e1 with ⟨rfl, e'⟩ | ⟨hne, e⟩
      · exact ⟨ds, hi⟩
      · exact ⟨fs, e⟩
    have g2 : ∃ fs', s.g[k]? = some (.own fs') := by
      rcases gset e2 with ⟨rfl, e'⟩ | ⟨hne, e⟩
      · exact ⟨ds, hi⟩
      · exact ⟨gs, e⟩
    obtain ⟨f1, g1⟩ := g1
    obtain ⟨f2, g2⟩ := g2
    exact R.ownd j k b f1 f2 hjk g1 g2 e3
  · rcases gset e with ⟨rfl, e'⟩ | ⟨hne, e⟩
    · cases e'
    · exact R.bor j n e
  · obtain ⟨vs', ds', k1, k2, k3, k4⟩ := R.bs n b e
    have hba : b ≠ a' := fun z => h4 (by rw [← z]; exact List.mem_of_getElem? e)
    exact ⟨vs', ds', k1, k2, by rw [upd_ne hba]; exact k3, k4⟩
/-- a list that was handed in is rewritten -/
theorem Rel.wrB (R : Rel K F I H σ s) {n : Nat} {es : List D} {a : Addr} {ws : List V} (ha : F.bs[n]? = some a) (hw : DtAll K I ws es) :
    Rel K F I (upd H a (.lst ws)) σ { s with b := s.b.set n es } := by
  obtain ⟨vs, ds, h1, h2, h3, h4⟩ := R.bs n a ha
  have hm : a ∈ F.bs := List.mem_of_getElem? ha
  refine ⟨same_upd2 R.le h2, R.le0, fun b o hb q => ?_, R.new, R.dat, fun j fs e => ?_, R.ownd, R.bor, fun m b e => ?_, R.nd, R.len, by simpa using R.blen⟩
  · have hba : b ≠ a := fun z => hb (by rw [z]; exact hm)
    rw [upd_ne hba]; exact R.keep b o hb q
  · obtain ⟨b, us, k1, k2, k3, k4, k5, k6⟩ := R.own j fs e
    have hba : b ≠ a := fun z => k4 (by rw [z]; exact hm)
    exact ⟨b, us, k1, k2, k3, k4, by rw [upd_ne hba]; exact k5, k6⟩
  · by_cases hmn : n = m
    · subst hmn
      rw [ha] at e; cases e
      have hl : n < s.b.length := (List.getElem?_eq_some_iff.mp h1).1
      exact ⟨ws, es, List.getElem?_set_self hl, h2, upd_same, hw⟩
    · obtain ⟨vs', ds', k1, k2, k3, k4⟩ := R.bs m b e
      have hba : b ≠ a := fun z => by
        subst z
        exact hmn ((List.getElem_inj R.nd).mp ((List.getElem?_eq_some_iff.mp ha).2.trans (List.getElem?_eq_some_iff.mp e).2.symm))
      exact ⟨vs', ds', by rw [List.getElem?_set_ne hmn]; exact k1, k2, by rw [upd_ne hba]; exact k3, k4⟩
/-- a list of its own is handed out for good -/
theorem Rel.freeze (R : Rel K F I H σ s) {i : Nat} {ds : List D} (hi : s.g[i]? = some (.own ds)) :
    ∃ (a : Addr) (I' : Hp), σ[i]? = some (some (.ref a)) ∧ Same I I' ∧ Dt K I' (.ref a) (.list ds) ∧ Rel K F I' H σ { s with g := s.g.set i (.dat (.list ds)) } := by
  obtain ⟨a, vs, h1, h2, h3, h4, h5, h6⟩ := R.own i ds hi
  have hil : i < s.g.length := (List.getElem?_eq_some_iff.mp hi).1
  have hset : σ.set i (some (.ref a)) = σ := by
    apply List.ext_getElem?
    intro j
    by_cases e : i = j
    · subst e; rw [List.getElem?_set_self (by rw [← R.len]; exact hil), h1]
    · rw [List.getElem?_set_ne e]
  have R1 : Rel K F I H (σ.set i (some (.ref a))) { s with g := s.g.set i .un } := R.setU i _
  rw [hset] at R1
  have R2 := R1.seal (p := a) (o := .lst vs) h5 h2 h3 h4 (fun j es e => by
    rcases gset e with ⟨rfl, e'⟩ | ⟨hne, e⟩
    · cases e'
    · exact R.ownd i j a ds es hne hi e h1)
  have sI : Same I (upd I a (.lst vs)) := same_new h3 _
  have hd : Dt K (upd I a (.lst vs)) (.ref a) (.list ds) := .lst (SqL.of upd_same) (dps_mono sI ds h6)
  have R3 := R2.setD i hd
  rw [hset] at R3
  have e : ({ s with g := s.g.set i .un } : S).g.set i (.dat (.list ds)) = s.g.set i (.dat (.list ds)) := by
    show (s.g.set i .un).set i (.dat (.list ds)) = _
    rw [List.set_set]
  refine ⟨a, _, h1, sI, hd, ?_⟩
  rw [e] at R3
  exact R3
/-- all that stands now and is none of the def's own lists may be taken as its start -/
theorem Rel.frame (R : Rel K F I H σ s) : ∃ F' : Fx, F'.bs = F.bs ∧ F'.I0 = I ∧ Rel K F' I H σ s ∧ (∀ a o, H a = some o → a ∉ F.bs → (∀ (i : Nat) (ds : List D), s.g[i]? = some (Sl.own ds) → σ[i]? ≠ some (some (V.ref a))) → F'.H0 a = some o) ∧
    (∀ I' H' σ' s', Rel K F' I' H' σ' s' → Rel K F I' H' σ' s') := by
  classical
  let isOwn : Addr → Prop := fun a => ∃ (i : Nat) (ds : List D), s.g[i]? = some (Sl.own ds) ∧ σ[i]? = some (some (V.ref a))
  let H0' : Hp := fun a => if isOwn a then none else H a
  have e0 : ∀ a o, H0' a = some o → H a = some o ∧ ¬ isOwn a := fun a o h => by
    by_cases q : isOwn a
    · simp only [H0', if_pos q] at h; cases h
    · simp only [H0', if_neg q] at h; exact ⟨h, q⟩
  refine ⟨⟨I, H0', F.bs⟩, rfl, rfl, ?_, ?_, ?_⟩
  · refine ⟨R.le, Same.refl I, fun a o _ h => (e0 a o h).1, fun a o _ h => h, R.dat, fun i ds e => ?_, R.ownd, R.bor, R.bs, R.nd, R.len, R.blen⟩
    obtain ⟨a, vs, h1, h2, h3, h4, h5, h6⟩ := R.own i ds e
    exact ⟨a, vs, h1, if_pos ⟨i, ds, e, h1⟩, h3, h4, h5, h6⟩
  · intro a o h hb hn
    show (if isOwn a then none else H a) = some o
    rw [if_neg (fun ⟨i, ds, e1, e2⟩ => hn i ds e1 e2)]
    exact h
  · intro I' H' σ' s' R'
    have nown : ∀ a o, F.H0 a = some o → ¬ isOwn a := fun a o h ⟨i, ds, e1, e2⟩ => by
      obtain ⟨b, vs, h1, h2, _⟩ := R.own i ds e1
      rw [e2] at h1; cases h1
      rw [h] at h2; cases h2
    refine ⟨R'.le, R.le0.trans R'.le0, fun a o hb h => ?_, fun a o h1 h2 => ?_, R'.dat, fun i ds e => ?_, R'.ownd, R'.bor, R'.bs, R'.nd, R'.len, R'.blen⟩
    · refine R'.keep a o hb ?_
      show (if isOwn a then none else H a) = some o
      rw [if_neg (nown a o h)]
      exact R.keep a o hb h
    · by_cases hb : a ∈ F.bs
      · obtain ⟨_, _, _, _, _, h, _⟩ := R'.bsAt hb
        exact h
      · refine R'.new a o ?_ (R.new a o h1 h2)
        show (if isOwn a then none else H a) = some o
        rw [if_neg (nown a o h1)]
        exact R.keep a o hb h1
    · obtain ⟨a, vs, h1, h2, h3, h4, h5, h6⟩ := R'.own i ds e
      refine ⟨a, vs, h1, ?_, h3, h4, h5, h6⟩
      cases q : F.H0 a with
      | none => rfl
      | some o =>
        have h2' : (if isOwn a then none else H a) = none := h2
        rw [if_neg (nown a o q), R.keep a o h4 q] at h2'
        cases h2'
end
end Bw

set_option Elab.async false
set_option linter.all false
set_option maxRecDepth 100000
set_option maxHeartbeats 4000000
noncomputable section
namespace Bw
open PySem L2

/-! ### operators on data -/
noncomputable instance (i j : Int) : Decidable (CMul i j) := Classical.propDecidable _
noncomputable instance (i j : Int) : Decidable (CMulW i j) := Classical.propDecidable _
noncomputable instance (i j : Int) : Decidable (CDivW i j) := Classical.propDecidable _
noncomputable instance (i j : Int) : Decidable (CPow i j) := Classical.propDecidable _
def ltB (i j : Int) : Bool := @decide (i < j) (Classical.propDecidable _)
def leB (i j : Int) : Bool := @decide (i ≤ j) (Classical.propDecidable _)
def eqB (i j : Int) : Bool := @decide (i = j) (Classical.propDecidable _)
def inR (j : Int) : Bool := @decide (-(2 ^ 62) ≤ j ∧ j < 2 ^ 62) (Classical.propDecidable _)
theorem ltB_eq (i j : Int) : ltB i j = decide (i < j) := by unfold ltB; congr
theorem leB_eq (i j : Int) : leB i j = decide (i ≤ j) := by unfold leB; congr
theorem eqB_eq (i j : Int) : eqB i j = decide (i = j) := by unfold eqB; congr
theorem inR_eq (j : Int) : inR j = decide (-(2 ^ 62) ≤ j ∧ j < 2 ^ 62) := by unfold inR; congr
theorem inR_iff {j : Int} : inR j = true ↔ -(2 ^ 62) ≤ j ∧ j < 2 ^ 62 := by rw [inR_eq, decide_eq_true_iff]
def okSz (n : Nat) : Bool := decide (n ≤ sizeLine)
def binD : Operator → D → D → Option D
  | .Add, .int i, .int j => some (.int (i + j))
  | .Add, .list a, .list b => if a.length + b.length ≤ sizeLine then some (.list (a ++ b)) else none
  | .Add, .tuple a, .tuple b => if a.length + b.length ≤ sizeLine then some (.tuple (a ++ b)) else none
  | .Add, .str a, .str b => if a.length + b.length ≤ sizeLine then some (.str (a ++ b)) else none
  | .Sub, .int i, .int j => some (.int (i - j))
  | .Mult, .int i, .int j => if CMul i j ∨ CMulW i j then some (.int (i * j)) else none
  | .FloorDiv, .int i, .int j => if CDivW i j then some (.int (i / j)) else none
  | .Mod, .int i, .int j => if 0 < j then some (.int (i % j)) else none
  | .Pow, .int i, .int j => if CPow i j then some (.int (i ^ j.toNat)) else none
  | .BitAnd, .int i, .int j => some (.int (Builtin.bitAnd i j))
  | _, _, _ => none
def augD : Operator → D → D → Option D
  | .Add, .int i, .int j => some (.int (i + j))
  | .Sub, .int i, .int j => some (.int (i - j))
  | .Mult, .int i, .int j => if CMul i j then some (.int (i * j)) else none
  | .FloorDiv, .int i, .int j => if CDivW i j then some (.int (i / j)) else none
  | _, _, _ => none
def flatD : D → Bool
  | .none => true
  | .bool _ => true
  | .int _ => true
  | .str _ => true
  | _ => false
def inD (x : D) (xs : List D) : Bool := xs.any fun y => PyData.eqv y x
def cmpD : CmpOp → D → D → Option Bool
  | .Lt, .int i, .int j => some (ltB i j)
  | .LtE, .int i, .int j => some (leB i j)
  | .Gt, .int i, .int j => some (ltB j i)
  | .GtE, .int i, .int j => some (leB j i)
  | .Lt, .str i, .str j => some (decide (i.cps.toList < j.cps.toList))
  | .Eq, .int i, .int j => some (eqB i j)
  | .Eq, .str i, .str j => some (decide (i = j))
  | .Eq, .bool i, .bool j => some (decide (i = j))
  | .Eq, a, b => if SeqAt.shaped a && SeqAt.shaped b then some (PyData.eqv a b) else none
  | .NotEq, .int i, .int j => some (!eqB i j)
  | .NotEq, .str i, .str j => some (!decide (i = j))
  | .NotEq, .bool i, .bool j => some (!decide (i = j))
  | .NotEq, a, b => if SeqAt.shaped a && SeqAt.shaped b then some (!PyData.eqv a b) else none
  | .In, x, .list ys => if flatD x && ys.all flatD then some (inD x ys) else none
  | .In, x, .tuple ys => if flatD x && ys.all flatD then some (inD x ys) else none
  | .In, .str i, .str j => some (!(Builtin.Str.occurrences j i 0 j.length 1).isEmpty)
  | .NotIn, x, .list ys => if flatD x && ys.all flatD then some (!inD x ys) else none
  | .NotIn, x, .tuple ys => if flatD x && ys.all flatD then some (!inD x ys) else none
  | .NotIn, .str i, .str j => some (!(!(Builtin.Str.occurrences j i 0 j.length 1).isEmpty))
  | .Is, .none, .none => some true
  | .Is, _, .none => some false
  | .IsNot, .none, .none => some false
  | .IsNot, _, .none => some true
  | _, _, _ => none
def truthD : D → Option Bool
  | .none => some false
  | .bool b => some b
  | .int i => some (i != 0)
  | .str x => if x.length ≤ sizeLine then some ((x.length : Int) != 0) else none
  | .list xs => some (!xs.isEmpty)
  | .tuple xs => some (!xs.isEmpty)
  | .dict _ => none
def negD : D → Option D
  | .int i => some (.int (-i))
  | _ => none
def boolD : D → Option Bool
  | .bool b => some b
  | _ => none
def ixD : D → D → Option D
  | .list xs, .int i => atI xs i
  | .tuple xs, .int i => atI xs i
  | .str x, .int i => if x.length ≤ sizeLine then (atI x.cps.toList i).map fun c => .str ⟨#[c]⟩ else none
  | _, _ => none
def cutD (xs : List D) (lo hi : Option Int) : List D := (xs.drop (HT.sIx xs.length 0 lo)).take (HT.sIx xs.length xs.length hi - HT.sIx xs.length 0 lo)
def sliceD (c : D) (l h : Option Int) : Option D := match c with
  | .list xs => some (.list (cutD xs l h))
  | .tuple xs => some (.tuple (cutD xs l h))
  | .str z => if z.length ≤ sizeLine then some (.str (cutS z l h)) else none
  | _ => none
def lenD : D → Option D
  | .list xs => some (.int xs.length)
  | .tuple xs => some (.int xs.length)
  | .str x => if x.length ≤ sizeLine then some (.int x.length) else none
  | _ => none
def seqD : D → Option (List D)
  | .list xs => some xs
  | .tuple xs => some xs
  | _ => none
def intD : D → Option Int
  | .int i => some i
  | _ => none
def boolsD : List D → Option (List Bool)
  | [] => some []
  | .bool b :: r => (boolsD r).map (b :: ·)
  | _ :: _ => none
/-- built-in classes that isinstance is asked with -/
def tyD : D → String
  | .none => "NoneType"
  | .bool _ => "bool"
  | .int _ => "int"
  | .str _ => "str"
  | .list _ => "list"
  | .tuple _ => "tuple"
  | .dict _ => "dict"
def isiD (t c : String) : Bool := t == c || (t == "bool" && c == "int")
def clsNames : List Str := ["int", "bool", "str", "list", "tuple", "dict"]
def clsOf (x : Str) : Option String :=
  if x = "int" then some "int" else if x = "bool" then some "bool" else if x = "str" then some "str" else if x = "list" then some "list" else if x = "tuple" then some "tuple" else if x = "dict" then some "dict" else none

/-! ### defs that may be called -/
inductive Rv where
  | val (d : D) (b : List (List D)) | exc (x : Xc) (b : List (List D))
structure Fn where
  sig : List Bool
  fresh : Bool
  run : List D → List (List D) → Option Rv
structure Cf where
  N : List Str
  sc : Scope
  fns : Str → Nat → List Str → Option Fn
  gl : Str → Option D
  blt : Str → Bool
  wf : Nat
  fn : Str → Bool

/-! ### slots -/
def okName (x : Str) : Bool := !(x == ("__debug__" : Str)) && !(x == ("__classdict__" : Str))
/-- the slot of a name that may be read -/
def slotOf (C : Cf) (x : Str) : Option Nat := match C.sc.names.lookup x with
  | some .local => if okName x then C.N.findIdx? (· == x) else none
  | some .cell => if okName x then C.N.findIdx? (· == x) else none
  | some .free => if okName x then C.N.findIdx? (· == x) else none
  | _ => none
def locOf (C : Cf) (x : Str) : Option Nat := match C.sc.names.lookup x with
  | some .local => C.N.findIdx? (· == x)
  | some .cell => if C.fn x then C.N.findIdx? (· == x) else none
  | _ => none
def isGl (C : Cf) (x : Str) : Bool := (match C.sc.names.lookup x with | some .globalImplicit => true | _ => false) && !(x == ("__debug__" : Str))
/-- a name that stands for the built-in of that name -/
def isBlt (C : Cf) (x : Str) : Bool := isGl C x && C.blt x && !(x == ("__name__" : Str))
/-- read for good: a list of the def's own is handed out -/
def rdS (i : Nat) : S → Res D := fun s => match s.g[i]? with
  | some (.dat d) => .ok d s
  | some (.own ds) => .ok (.list ds) { s with g := s.g.set i (.dat (.list ds)) }
  | _ => .bad
/-- looked at in passing -/
def pkS (i : Nat) : S → Res D := fun s => match s.g[i]? with
  | some (.dat d) => .ok d s
  | some (.own ds) => .ok (.list ds) s
  | some (.bor n) => (match s.b[n]? with | some ds => .ok (.list ds) s | none => .bad)
  | _ => .bad
/-- a list that may be changed: its items -/
def getL (i : Nat) (s : S) : Option (List D) := match s.g[i]? with
  | some (.own ds) => some ds
  | some (.bor n) => s.b[n]?
  | _ => none
def putL (i : Nat) (s : S) (es : List D) : S := match s.g[i]? with
  | some (.own _) => { s with g := s.g.set i (.own es) }
  | some (.bor n) => { s with b := s.b.set n es }
  | _ => s
def chL (i : Nat) (f : List D → Option (D × List D)) : S → Res D := fun s => match getL i s with
  | some ds => (match f ds with | some (r, es) => .ok r (putL i s es) | none => .bad)
  | none => .bad
def setS (i : Nat) (d : D) : S → Res Unit := fun s => .ok () { s with g := s.g.set i (.dat d) }
def setO (i : Nat) (ds : List D) : S → Res Unit := fun s => .ok () { s with g := s.g.set i (.own ds) }

/-! ### expressions -/
def evs (f : Expr → S → Res D) : List Expr → S → Res (List D)
  | [] => ret []
  | e :: es => bnd (f e) fun d => bnd (evs f es) fun ds => ret (d :: ds)
def noStar : Expr → Bool
  | .Starred _ _ => false
  | _ => true
def notSet : Expr → Bool
  | .Set _ _ _ => false
  | _ => true
def notSlice : Expr → Bool
  | .Slice _ _ _ _ => false
  | _ => true
structure EvK where
  e : Expr → S → Res D
  t : Expr → S → Res Bool
  l : Expr → S → Res (List D)
  it : Expr → Expr → S → Res (List D)
  asg : Expr → D → S → Res Unit
/-- read in passing -/
def pkE (C : Cf) (R : EvK) (e : Expr) : S → Res D := match e with
  | .Name x _ => (match slotOf C x with | some i => pkS i | none => R.e e)
  | _ => R.e e
def evName (C : Cf) (x : Str) : S → Res D := match slotOf C x with
  | some i => rdS i
  | none => if isGl C x then lift (C.gl x) else fail
def andV (R : EvK) : List Expr → S → Res D
  | [] => fail
  | [a] => R.e a
  | a :: r => bnd (R.e a) fun x => bnd (lift (boolD x)) fun c => if c then andV R r else ret (.bool false)
def orV (R : EvK) : List Expr → S → Res D
  | [] => fail
  | [a] => R.e a
  | a :: r => bnd (R.e a) fun x => bnd (lift (boolD x)) fun c => if c then ret (.bool true) else orV R r
def andT (R : EvK) : List Expr → S → Res Bool
  | [] => fail
  | [a] => R.t a
  | a :: r => bnd (R.t a) fun c => if c then andT R r else ret false
def orT (R : EvK) : List Expr → S → Res Bool
  | [] => fail
  | [a] => R.t a
  | a :: r => bnd (R.t a) fun c => if c then ret true else orT R r
def cmpE (C : Cf) (R : EvK) (a : Expr) (ops : List CmpOp) (bs : List Expr) : S → Res Bool := match ops, bs with
  | [op], [b] => if notSet b then bnd (R.e a) fun x => bnd (pkE C R b) fun y => lift (cmpD op x y) else fail
  | [op, op'], [b, c] => if notSet b && notSet c then bnd (R.e a) fun x => bnd (R.e b) fun y => bnd (lift (cmpD op x y)) fun k => if k then bnd (R.e c) fun z => lift (cmpD op' y z) else ret false else fail
  | _, _ => fail
/-- how a def's lists that may be changed are handed on -/
inductive Cell where
  | own (i : Nat) | bor (n : Nat)
def cellOf (i : Nat) (s : S) : Option Cell := match s.g[i]? with
  | some (.own _) => some (.own i)
  | some (.bor n) => some (.bor n)
  | _ => none
def cellGet (s : S) : Cell → Option (List D)
  | .own i => (match s.g[i]? with | some (.own ds) => some ds | _ => none)
  | .bor n => s.b[n]?
def cellPut (s : S) (es : List D) : Cell → S
  | .own i => { s with g := s.g.set i (.own es) }
  | .bor n => { s with b := s.b.set n es }
/-- the arguments from the left; at most one list to be changed -/
def evArgs (C : Cf) (R : EvK) : List Bool → List Expr → S → Res (List D × List Cell)
  | [], [] => ret ([], [])
  | false :: sg, e :: es => if noStar e then bnd (R.e e) fun d => bnd (evArgs C R sg es) fun r => ret (d :: r.1, r.2) else fail
  | true :: sg, .Name x _ :: es => (match slotOf C x with
    | some i => bnd (fun s => lift (cellOf i s) s) fun c => bnd (evArgs C R sg es) fun r => ret (r.1, c :: r.2)
    | none => fail)
  | _, _ => fail
def callFn (fn : Fn) (a : List D × List Cell) : S → Res D := fun s => match a.2 with
  | [] => (match fn.run a.1 [] with
    | some (.val d []) => .ok d s
    | _ => .bad)
  | [c] => (match cellGet s c with
    | some ds => (match fn.run a.1 [ds] with
      | some (.val d [es]) => .ok d (cellPut s es c)
      | _ => .bad)
    | none => .bad)
  | _ => .bad
def isiOf (C : Cf) (t : String) : Expr → Option Bool
  | .Name x _ => if isBlt C x then (clsOf x).map (isiD t) else none
  | _ => none
def isiAny (C : Cf) (t : String) : List Expr → Option Bool
  | [] => some false
  | e :: es => (match isiOf C t e, isiAny C t es with
    | some a, some b => some (a || b)
    | _, _ => none)
/-- isinstance(x, ..) -/
def isiE (C : Cf) (d : D) : Expr → Option Bool
  | .Tuple es _ _ => if es.length ≤ 30 then isiAny C (tyD d) es else none
  | e => isiOf C (tyD d) e
def absI (i : Int) : Int := if i < 0 then -i else i
/-- calls of built-ins that give data -/
def bltE (C : Cf) (R : EvK) (x : Str) (args : List Expr) : S → Res D :=
  if x = "len" then (match args with | [a] => bnd (pkE C R a) fun c => lift (lenD c) | _ => fail)
  else if x = "isinstance" then (match args with | [a, T] => bnd (pkE C R a) fun d => lift ((isiE C d T).map .bool) | _ => fail)
  else if x = "all" then (match args with | [a] => bnd (R.e a) fun d => lift (match d with | .list ds => (boolsD ds).map fun bs => .bool (bs.all id) | _ => none) | _ => fail)
  else if x = "abs" then (match args with | [a] => bnd (R.e a) fun d => lift ((intD d).map fun i => .int (absI i)) | _ => fail)
  else if x = "int" then (match args with | [a] => bnd (R.e a) fun d => lift (match d with | .int i => some (.int i) | .bool k => some (.int (if k then 1 else 0)) | _ => none) | _ => fail)
  else if x = "min" then (match args with | [a, b] => bnd (R.e a) fun d => bnd (R.e b) fun d' => lift ((intD d).bind fun i => (intD d').map fun j => .int (if j < i then j else i)) | _ => fail)
  else if x = "max" then (match args with | [a, b] => bnd (R.e a) fun d => bnd (R.e b) fun d' => lift ((intD d).bind fun i => (intD d').map fun j => .int (if j > i then j else i)) | _ => fail)
  else fail
/-- part of a slice -/
def partE (R : EvK) : Option Expr → S → Res (Option Int)
  | none => ret none
  | some e => bnd (R.e e) fun d => lift ((intD d).map some)
/-- the slots of a comprehension's own names -/
def ownOf (C : Cf) (scope : Scope) : List (Str × Nat) := scope.names.filterMap fun y => match y.2 with
  | .local => (C.N.findIdx? (· == y.1)).map fun i => (y.1, i)
  | .cell => (C.N.findIdx? (· == y.1)).map fun i => (y.1, i)
  | _ => none
def wipeG (g : List Sl) : List Nat → List Sl
  | [] => g
  | v :: vs => (wipeG g vs).set v .un
def backG (g0 g : List Sl) : List Nat → List Sl
  | [] => g
  | v :: vs => (match g0[v]? with | some x => (backG g0 g vs).set v x | none => backG g0 g vs)
def blkCf (C : Cf) (scope : Scope) : Cf := { C with sc := relS scope C.sc, fn := fun x => scope.names.lookup x == some .cell }
def compL (own : List Nat) (asg : D → S → Res Unit) (tst : S → Res Bool) (elt : S → Res D) : List D → List D → S → Res (List D)
  | [], acc => fun s => .ok acc s
  | x :: r, acc => bnd (asg x) fun _ => bnd tst fun b => if b then bnd elt fun d => if acc.length < sizeLine then (fun s => compL own asg tst elt r (acc ++ [d]) { s with g := wipeG s.g own }) else fail
      else fun s => compL own asg tst elt r acc { s with g := wipeG s.g own }
def tests (R : EvK) : List Expr → S → Res Bool
  | [] => ret true
  | [c] => R.t c
  | _ => fail

/-- the slots of a target are among these -/
def tgIn (C : Cf) (own : List Nat) : Nat → Expr → Bool
  | 0, _ => false
  | n + 1, tg => match tg with
    | .Name x _ => (match locOf C x with | some i => own.contains i | none => false)
    | .Tuple es _ _ => es.all (tgIn C own n)
    | .Starred e _ => tgIn C own n e
    | _ => false
def noOwn (g : List Sl) (own : List Nat) : Bool := own.all fun v => match g[v]? with | some (.own _) => false | _ => true
def stepL (RC : Cf → EvK) (C : Cf) (e : Expr) : S → Res (List D) := match e with
  | .List es _ => if es.all noStar then bnd (evs (RC C).e es) fun ds => lift (if ds.length ≤ sizeLine then some ds else none) else fail
  | .ListComp elt [⟨tg, iter, ifs, 0⟩] scope _ => if notSet iter && blkC C.N C.sc scope (ownOf C scope) && tgIn (blkCf C scope) ((ownOf C scope).map (·.2)) 6 tg then
      bnd ((RC C).it tg iter) fun ds s => if noOwn s.g ((ownOf C scope).map (·.2)) then
        (match compL ((ownOf C scope).map (·.2)) ((RC (blkCf C scope)).asg tg) (tests (RC (blkCf C scope)) ifs) ((RC (blkCf C scope)).e elt) ds [] { s with g := wipeG s.g ((ownOf C scope).map (·.2)) } with
        | .ok acc s' => .ok acc { s' with g := backG s.g s'.g ((ownOf C scope).map (·.2)) }
        | .exc _ _ => .bad
        | .bad => .bad) else .bad
      else fail
  | .Call (.Name x _) args [] _ => if isBlt C x then
      (if x = "list" then (match args with | [a] => if noStar a then bnd (pkE C (RC C) a) fun c => lift (seqD c) else fail | _ => fail) else fail)
      else if isGl C x then (match C.fns x args.length [] with
        | some fn => if fn.fresh then bnd (evArgs C (RC C) fn.sig args) fun a => bnd (callFn fn a) fun d => lift (match d with | .list ds => some ds | _ => none) else fail
        | none => fail)
      else fail
  | _ => fail
def stepE (RC : Cf → EvK) (C : Cf) (e : Expr) : S → Res D := match e with
  | .Constant (.int i) _ _ => ret (.int i)
  | .Constant (.str x) _ _ => ret (.str x)
  | .Constant (.bool b) _ _ => ret (.bool b)
  | .Constant .none _ _ => ret .none
  | .Name x _ => evName C x
  | .BinOp a op b _ => bnd ((RC C).e a) fun x => bnd ((RC C).e b) fun y => lift (binD op x y)
  | .UnaryOp .Not a _ => bnd ((RC C).e a) fun x => lift ((boolD x).map fun c => .bool (!c))
  | .UnaryOp .USub a _ => bnd ((RC C).e a) fun x => lift (negD x)
  | .BoolOp .And es _ => andV (RC C) es
  | .BoolOp .Or es _ => orV (RC C) es
  | .Compare a ops bs _ => bnd (cmpE C (RC C) a ops bs) fun k => ret (.bool k)
  | .IfExp c a b _ => bnd ((RC C).t c) fun k => if k then (RC C).e a else (RC C).e b
  | .Tuple es _ _ => if es.all noStar then bnd (evs (RC C).e es) fun ds => lift (if ds.length ≤ sizeLine then some (.tuple ds) else none) else fail
  | .List es p => bnd ((RC C).l (.List es p)) fun ds => ret (.list ds)
  | .ListComp elt gs scope p => bnd ((RC C).l (.ListComp elt gs scope p)) fun ds => ret (.list ds)
  | .Subscript a (.Slice lo hi none _) _ => (match a with
      | .Name x _ => (match slotOf C x with
        | some j => bnd (pkS j) fun _ => bnd (partE (RC C) lo) fun l => bnd (partE (RC C) hi) fun h => bnd (pkS j) fun c => lift (sliceD c l h)
        | none => bnd ((RC C).e a) fun c => bnd (partE (RC C) lo) fun l => bnd (partE (RC C) hi) fun h => lift (sliceD c l h))
      | _ => bnd ((RC C).e a) fun c => bnd (partE (RC C) lo) fun l => bnd (partE (RC C) hi) fun h => lift (sliceD c l h))
  | .Subscript a i _ => if notSlice i then (match a with
      | .Name x _ => (match slotOf C x with
        | some j => bnd (pkS j) fun _ => bnd ((RC C).e i) fun k => bnd (pkS j) fun c => lift (ixD c k)
        | none => bnd ((RC C).e a) fun c => bnd ((RC C).e i) fun k => lift (ixD c k))
      | _ => bnd ((RC C).e a) fun c => bnd ((RC C).e i) fun k => lift (ixD c k)) else fail
  | .Call (.Name x p) args [] q => if isBlt C x then (if args.all noStar then
        (if x = "list" then bnd ((RC C).l (.Call (.Name x p) args [] q)) fun ds => ret (.list ds) else bltE C (RC C) x args) else fail)
      else if isGl C x then (match C.fns x args.length [] with
        | some fn => if fn.fresh then bnd ((RC C).l (.Call (.Name x p) args [] q)) fun ds => ret (.list ds) else bnd (evArgs C (RC C) fn.sig args) (callFn fn)
        | none => fail)
      else fail
  | .Call (.Name x _) [] (k :: kws) _ => if isBlt C x then fail else if isGl C x then (match C.fns x 0 ((k :: kws).filterMap (·.arg)) with
        | some fn => if !fn.fresh && (k :: kws).all (·.arg.isSome) then bnd (evArgs C (RC C) fn.sig ((k :: kws).map (·.value))) (callFn fn) else fail
        | none => fail)
      else fail
  | _ => fail
def stepT (RC : Cf → EvK) (C : Cf) (e : Expr) : S → Res Bool := match e with
  | .BoolOp .And es _ => andT (RC C) es
  | .BoolOp .Or es _ => orT (RC C) es
  | .UnaryOp .Not a _ => bnd ((RC C).t a) fun c => ret (!c)
  | .Compare a ops bs _ => cmpE C (RC C) a ops bs
  | .IfExp _ _ _ _ => fail
  | e => bnd ((RC C).e e) fun d => lift (truthD d)
/-- what a for or a comprehension walks, item by item -/
def stepI (RC : Cf → EvK) (C : Cf) (tg iter : Expr) : S → Res (List D) := match iter with
  | .Call (.Name x p) args [] q => if isBlt C x && args.all noStar then
      (if x = "range" then (match args with
        | [a] => bnd ((RC C).e a) fun d => lift ((intD d).bind fun j => if inR j then some ((List.range j.toNat).map fun i => .int (0 + (i : Nat))) else none)
        | [a, b] => bnd ((RC C).e a) fun d => bnd ((RC C).e b) fun d' => lift ((intD d).bind fun i => (intD d').bind fun j => if inR i && inR j then some ((List.range (j - i).toNat).map fun k => .int (i + (k : Nat))) else none)
        | _ => fail)
      else if x = "enumerate" then (match tg, args with
        | .Tuple _ _ _, [a] => bnd ((RC C).e a) fun d => lift (match d with | .list xs => some ((List.range xs.length).zipWith (fun i x => .tuple [.int (i : Nat), x]) xs) | _ => none)
        | _, _ => fail)
      else if x = "zip" then (match tg, args with
        | .Tuple _ _ _, [a, b] => bnd ((RC C).e a) fun d => bnd ((RC C).e b) fun d' => lift (match d, d' with
          | .list xs, .list ys => some (List.zipWith (fun x y => .tuple [x, y]) xs ys)
          | .tuple xs, .tuple ys => some (List.zipWith (fun x y => .tuple [x, y]) xs ys)
          | _, _ => none)
        | _, _ => fail)
      else bnd ((RC C).e (.Call (.Name x p) args [] q)) fun d => lift (seqD d))
      else bnd ((RC C).e (.Call (.Name x p) args [] q)) fun d => lift (seqD d)
  | iter => bnd ((RC C).e iter) fun d => lift (seqD d)
/-- a target takes data -/
def asgs (f : Expr → D → S → Res Unit) : List Expr → List D → S → Res Unit
  | [], [] => ret ()
  | t :: ts, d :: ds => bnd (f t d) fun _ => asgs f ts ds
  | _, _ => fail
/-- a, b, *c: the plain ones, the last one's name -/
def splitStar : List Expr → Option (List Expr × Expr)
  | [] => none
  | [.Starred t _] => some ([], t)
  | e :: es => if noStar e then (splitStar es).map fun r => (e :: r.1, r.2) else none
def stepA (RC : Cf → EvK) (C : Cf) (tg : Expr) (d : D) : S → Res Unit := match tg with
  | .Name x _ => (match locOf C x with | some i => setS i d | none => fail)
  | .Tuple es _ _ => if es.all noStar then (match d with
      | .tuple ds => asgs (RC C).asg es ds
      | .list ds => asgs (RC C).asg es ds
      | _ => fail) else (match splitStar es, seqD d with
      | some (pre, t), some ds => if pre.length ≤ ds.length then bnd (asgs (RC C).asg pre (ds.take pre.length)) fun _ => (RC C).asg t (.list (ds.drop pre.length)) else fail
      | _, _ => fail)
  | .Subscript (.Name x _) i _ => if notSlice i then (match slotOf C x with
      | some j => bnd (pkS j) fun _ => bnd ((RC C).e i) fun k => bnd (chL j fun ds => (intD k).bind fun z => (ixN ds.length z).map fun m => (.none, ds.set m d)) fun _ => ret ()
      | none => fail) else fail
  | _ => fail
def badK : EvK := ⟨fun _ => fail, fun _ => fail, fun _ => fail, fun _ _ => fail, fun _ _ => fail⟩
def step (RC : Cf → EvK) (C : Cf) : EvK := ⟨stepE RC C, stepT RC C, stepL RC C, stepI RC C, stepA RC C⟩
def EV : Nat → Cf → EvK
  | 0 => fun _ => badK
  | n + 1 => step (EV n)

/-! ### statements -/
inductive Fl where
  | nx | rt (d : D) | brk | cnt
def isComp : Expr → Bool
  | .ListComp _ _ _ _ => true
  | .SetComp _ _ _ _ => true
  | .DictComp _ _ _ _ _ => true
  | _ => false
def locNm (sc : Scope) (line : Nat) : Expr → Bool
  | .Name id pos => sc.names.lookup id == some .local && pos.line == line
  | _ => false
def headLine (ts : List Expr) : Nat := (ts.head?.map (·.pos.line)).getD 0
/-- which names are stored from the right (the compiler's swap of two or three plain names); none: not served -/
def swC (sc : Scope) (tg value : Expr) : Option (Option (List Str)) := match tg, value with
  | .Tuple ts _ _, .Tuple vs _ _ => if ts.all (locNm sc (headLine ts)) then (match ts, vs with
      | [.Name x _, .Name y _], [a, b] => if !(x == y) && noStar a && noStar b && !(foldedForSure 8 a && foldedForSure 8 b) && !(constantsAlone 8 a && constantsAlone 8 b) then some (some [x, y]) else none
      | [.Name x _, .Name y _, .Name z _], [a, b, c] => if !(x == y) && !(x == z) && !(y == z) && noStar a && noStar b && noStar c && !(foldedForSure 8 a && (foldedForSure 8 b && foldedForSure 8 c)) && !(constantsAlone 8 a && (constantsAlone 8 b && constantsAlone 8 c)) then some (some [x, y, z]) else none
      | _, _ => none) else some none
  | .Tuple _ _ _, _ => some none
  | .Subscript _ _ _, _ => some none
  | _, _ => none
/-- stores plain names -/
def setNm (C : Cf) : List Str → List D → S → Res Unit
  | [], [] => ret ()
  | x :: xs, d :: ds => bnd (match locOf C x with | some i => setS i d | none => fail) fun _ => setNm C xs ds
  | _, _ => fail
/-- is a new list made by this expression? then a name that takes it holds a list of its own -/
def isFresh (C : Cf) : Expr → Bool
  | .List _ _ => true
  | .ListComp _ _ _ _ => true
  | .Call (.Name x _) args [] _ => if isBlt C x then decide (x = "list") else (match C.fns x args.length [] with | some fn => fn.fresh | none => false)
  | _ => false
def seqS (f : Stmt → S → Res Fl) : List Stmt → S → Res Fl
  | [] => ret .nx
  | st :: r => bnd (f st) fun fl => match fl with
    | .nx => seqS f r
    | .rt d => ret (.rt d)
    | .brk => ret .brk
    | .cnt => ret .cnt
def forL (asg : D → S → Res Unit) (body : S → Res Fl) : List D → S → Res Fl
  | [] => ret .nx
  | d :: r => bnd (asg d) fun _ => bnd body fun fl => match fl with
    | .nx => forL asg body r
    | .cnt => forL asg body r
    | .brk => ret .nx
    | .rt d => ret (.rt d)
def whileL (c : S → Res Bool) (body : S → Res Fl) : Nat → S → Res Fl
  | 0 => fail
  | n + 1 => bnd c fun k => if k then bnd body fun fl => match fl with
    | .nx => whileL c body n
    | .cnt => whileL c body n
    | .brk => ret .nx
    | .rt d => ret (.rt d) else ret .nx
def appD (d : D) (ds : List D) : Option (D × List D) := if ds.length < sizeLine then some (.none, ds ++ [d]) else none
/-- one statement; fr: a new list is handed back -/
def stepS (fr : Bool) (R : EvK) (X : Stmt → S → Res Fl) (C : Cf) (st : Stmt) : S → Res Fl := match st with
  | .Pass _ => ret .nx
  | .Break _ => ret .brk
  | .Continue _ => ret .cnt
  | .Return none _ => if fr then fail else ret (.rt .none)
  | .Return (some e) _ => if fr then (match e with
        | .Name x _ => (match slotOf C x with
          | some i => fun s => (match s.g[i]? with | some (.own ds) => .ok (.rt (.list ds)) s | _ => .bad)
          | none => fail)
        | _ => bnd (R.l e) fun ds => ret (.rt (.list ds)))
      else bnd (R.e e) fun d => ret (.rt d)
  | .If c a b _ => bnd (R.t c) fun k => if k then seqS X a else seqS X b
  | .For tg it body [] _ => if notSet it then bnd (R.it tg it) fun ds => forL (R.asg tg) (seqS X body) ds else fail
  | .While c body [] _ => whileL (R.t c) (seqS X body) C.wf
  | .Assign [.Name x p] e q => (match locOf C x with
      | some i => if isComp e then (match e with
            | .ListComp elt gs scope pos => if (C.sc.names.lookup x == some .local && p.line == pos.line && !(scope.names.any fun (n, k) => n == x && (k == .local || k == .cell))) || C.sc.names.lookup x == some .cell then
                bnd (R.l (.ListComp elt gs scope pos)) fun ds => bnd (setO i ds) fun _ => ret .nx else fail
            | _ => fail)
          else if isFresh C e then bnd (R.l e) fun ds => bnd (setO i ds) fun _ => ret .nx
          else bnd (R.e e) fun d => bnd (setS i d) fun _ => ret .nx
      | none => fail)
  | .Assign [tg] e _ => if isComp e then fail else (match swC C.sc tg e with
      | none => fail
      | some none => bnd (R.e e) fun d => bnd (R.asg tg d) fun _ => ret .nx
      | some (some names) => (match e with
        | .Tuple es _ _ => bnd (evs R.e es) fun ds => bnd (setNm C names ds) fun _ => ret .nx
        | _ => fail))
  | .AugAssign (.Name x _) op e _ => (match slotOf C x, locOf C x with
      | some i, some j => if i = j then bnd (rdS i) fun d => bnd (R.e e) fun d' => bnd (lift (augD op d d')) fun r => bnd (setS i r) fun _ => ret .nx else fail
      | _, _ => fail)
  | .Expr (.Constant (.str _) _ _) _ => ret .nx
  | .Expr (.Call (.Attribute (.Name x _) m ap) [a] [] cp) _ => if m = "append" && ap.endLine == cp.line && noStar a then (match slotOf C x with
      | some i => bnd (pkS i) fun c => (match c with
        | .list _ => bnd (R.e a) fun d => bnd (chL i (appD d)) fun _ => ret .nx
        | _ => fail)
      | none => fail) else fail
  | .Expr (.Call (.Name x p) args kws q) _ => bnd (R.e (.Call (.Name x p) args kws q)) fun _ => ret .nx
  | _ => fail
def EX (fr : Bool) (C : Cf) : Nat → Stmt → S → Res Fl
  | 0 => fun _ => fail
  | n + 1 => stepS fr (EV (n + 1) C) (EX fr C n) C
/-- a def's body -/
def startS (n : Nat) (sig : List Bool) (ds : List D) (cs : List (List D)) : S := ⟨go sig ds 0 ++ List.replicate (n - sig.length) .un, cs⟩ where
  go : List Bool → List D → Nat → List Sl
    | [], _, _ => []
    | true :: sg, ds, k => .bor k :: go sg ds (k + 1)
    | false :: sg, d :: ds, k => .dat d :: go sg ds k
    | false :: sg, [], k => .un :: go sg [] k
def runBody (n : Nat) (C : Cf) (fn : Fn) (body : List Stmt) (ds : List D) (cs : List (List D)) : Option Rv := match seqS (EX fn.fresh C n) body (startS C.N.length fn.sig ds cs) with
  | .ok .nx s => if fn.fresh then none else some (.val .none s.b)
  | .ok (.rt d) s => some (.val d s.b)
  | .ok _ _ => none
  | .exc x b => some (.exc x b)
  | .bad => none
end Bw
end

set_option Elab.async false
set_option linter.all false
set_option maxRecDepth 100000
set_option maxHeartbeats 4000000
noncomputable section
namespace Bw
open PySem L2 PySem.Spec

/-! ### the weakest readings -/
section
variable {X : Cx}
def EvE (X : Cx) (e : Expr) : TE := fun σ H Q => ∀ (pins : List (Addr × Obj)) (s : Shared), Inv X pins σ H s → wpAny (model X.prog X.w) X.A (eval e X.env) (EP X pins σ Q) X.xe s
def EvT (X : Cx) (e : Expr) : TT := fun σ H Q => ∀ (pins : List (Addr × Obj)) (s : Shared), Inv X pins σ H s → wpAny (model X.prog X.w) X.A (isTrue e X.env (eval e X.env)) (TP X pins σ Q) X.xe s
def EvG (X : Cx) (tg : Expr) : TG := fun v σ H Q => ∀ (pins : List (Addr × Obj)) (s : Shared) (u : Value), Inv X pins σ H s → RelV v u → wpAny (model X.prog X.w) X.A (assign tg X.env u) (fun _ s' => ∃ σ' H', Inv X pins σ' H' s' ∧ Q σ' H') X.xe s
def EvI (X : Cx) (tg iter : Expr) : TI := fun σ H R => ∀ (pins : List (Addr × Obj)) (s : Shared), Inv X pins σ H s → wpAny (model X.prog X.w) X.A (eval iter X.env) (fun v s1 => wpAny (model X.prog X.w) X.A (pyIter v) (PIE X pins σ tg R) X.xe s1) X.xe s
def EvS (X : Cx) (st : Stmt) : TS := fun D σ H => ∀ (pins : List (Addr × Obj)) (s : Shared), Inv X pins σ H s → wpAny (model X.prog X.w) X.A (exec st X.env) (SP X pins D) X.xe s
def EvSs (X : Cx) (st : List Stmt) : TS := fun D σ H => ∀ (pins : List (Addr × Obj)) (s : Shared), Inv X pins σ H s → wpAny (model X.prog X.w) X.A (execs st X.env) (SP X pins D) X.xe s
theorem pe_w (e : Expr) : PE X e (EvE X e) := ⟨fun pins s _ _ _ I h => h pins s I⟩
theorem pt_w (e : Expr) : PT X e (EvT X e) := ⟨fun pins s _ _ _ I h => h pins s I⟩
theorem pg_w (e : Expr) : PG X e (EvG X e) := ⟨fun pins s _ _ _ u _ I r h => h pins s u I r⟩
theorem pi_w (tg e : Expr) : PI X tg e (EvI X tg e) := ⟨fun pins s _ _ _ I h => h pins s I⟩
theorem ps_w (st : Stmt) : PS X st (EvS X st) := ⟨fun pins s _ _ _ I h => h pins s I⟩
theorem pss_w (st : List Stmt) : PSs X st (EvSs X st) := ⟨fun pins s _ _ _ I h => h pins s I⟩
theorem ofPE {e : Expr} {t : TE} {σ : St} {H : Hp} {Q : VK} (h : PE X e t) (w : t σ H Q) : EvE X e σ H Q := fun pins s I => h.run pins s σ H Q I w
theorem ofPT {e : Expr} {t : TT} {σ : St} {H : Hp} {Q : Bool → Hp → Prop} (h : PT X e t) (w : t σ H Q) : EvT X e σ H Q := fun pins s I => h.run pins s σ H Q I w
theorem ofPG {e : Expr} {t : TG} {v : V} {σ : St} {H : Hp} {Q : St → Hp → Prop} (h : PG X e t) (w : t v σ H Q) : EvG X e v σ H Q := fun pins s u I r => h.run pins s σ H v u Q I r w
theorem ofPI {tg e : Expr} {t : TI} {σ : St} {H : Hp} {R : It → Hp → Prop} (h : PI X tg e t) (w : t σ H R) : EvI X tg e σ H R := fun pins s I => h.run pins s σ H R I w
theorem ofPS {e : Stmt} {t : TS} {σ : St} {H : Hp} {Q : Ends} (h : PS X e t) (w : t Q σ H) : EvS X e Q σ H := fun pins s I => h.run pins s σ H Q I w
theorem ofPSs {e : List Stmt} {t : TS} {σ : St} {H : Hp} {Q : Ends} (h : PSs X e t) (w : t Q σ H) : EvSs X e Q σ H := fun pins s I => h.run pins s σ H Q I w
/-- the state's own facts may be used -/
theorem EvE.inv {e : Expr} {σ : St} {H : Hp} {Q : VK} (h : (∃ pins s, Inv X pins σ H s) → EvE X e σ H Q) : EvE X e σ H Q := fun pins s I => h ⟨pins, s, I⟩ pins s I
end

/-! ### what is promised of a def -/
inductive ArgsR (K : PySem.W.Frag) (I : Hp) : List Bool → List V → List D → List Addr → Prop where
  | nil : ArgsR K I [] [] [] []
  | dat {sg : List Bool} {v : V} {vs : List V} {d : D} {ds : List D} {bs : List Addr} : Dt K I v d → ArgsR K I sg vs ds bs → ArgsR K I (false :: sg) (v :: vs) (d :: ds) bs
  | bor {sg : List Bool} {a : Addr} {vs : List V} {ds : List D} {bs : List Addr} : ArgsR K I sg vs ds bs → ArgsR K I (true :: sg) (.ref a :: vs) ds (a :: bs)
inductive BorR (K : PySem.W.Frag) (I H : Hp) : List Addr → List (List D) → Prop where
  | nil : BorR K I H [] []
  | cons {a : Addr} {vs : List V} {ds : List D} {bs : List Addr} {cs : List (List D)} : I a = none → H a = some (.lst vs) → DtAll K I vs ds → BorR K I H bs cs → BorR K I H (a :: bs) (ds :: cs)
def ResR (fr : Bool) (K : PySem.W.Frag) (H I' H' : Hp) (v : V) (d : D) : Prop :=
  if fr = true then ∃ a vs ds, v = .ref a ∧ d = .list ds ∧ H a = none ∧ I' a = none ∧ H' a = some (.lst vs) ∧ DtAll K I' vs ds else Dt K I' v d
def spF (K : PySem.W.Frag) (fn : Fn) : Sp := fun vs H Q _ => ∃ (I : Hp) (ds : List D) (bs : List Addr) (cs : List (List D)) (r : D) (cs' : List (List D)),
  ArgsR K I fn.sig vs ds bs ∧ Same I H ∧ BorR K I H bs cs ∧ bs.Nodup ∧ fn.run ds cs = some (.val r cs') ∧
  ∀ v I' H', Same I I' → Same I' H' → (∀ a o, a ∉ bs → H a = some o → H' a = some o) → (∀ a o, H a = some o → I a = none → I' a = none) → BorR K I' H' bs cs' → ResR fn.fresh K H I' H' v r → Q v H'
inductive FnAt (P : Program) (w : World) (K : PySem.W.Frag) (mg : Str → Option Value) (base : Heap) (k : Nat) (x : Str) (n : Nat) : List Str → Fn → Prop where
  | pos {fn : Fn} {f : Addr} {fd : FuncData} {ps : List Str} {sp : Sp} {ds : List Value} {dvs : List V} : mg x = some (.ref f) → PySem.W.keepIn K (.ref f) = true → FnOk P w K mg base CX0 k f fd ps sp → Binds K fd ps ds → Vals dvs ds →
      fn.sig.length = n → (∀ vs H Q E, spF K fn vs H Q E → sp (vs ++ dvs) H Q E) → FnAt P w K mg base k x n [] fn
  | kw {fn : Fn} {f : Addr} {fd : FuncData} {ps : List Str} {sp : Sp} {ks : List Str} {g : List Value → List Value → List Value} {gV : List V → List V → List V} : mg x = some (.ref f) → PySem.W.keepIn K (.ref f) = true → FnOk P w K mg base CX0 k f fd ps sp →
      KBn K fd ps n ks g gV → n = 0 → ks ≠ [] → fn.sig = ks.map (fun _ => false) → (∀ zs H Q E, spF K fn zs H Q E → sp (gV [] zs) H Q E) → FnAt P w K mg base k x n ks fn
structure CtxOk (k : Nat) (C : Cf) (X : Cx) : Prop where
  N : X.N = C.N
  sc : X.env.scope = C.sc
  kind : C.sc.kind = .function
  nd : C.N.Nodup
  calm : X.calm = true
  room : Room k X.A
  fn : ∀ x, C.fn x = true → X.fn x = true
  blt : ∀ x, C.blt x = true → X.mg x = none
  gl : ∀ x d, C.gl x = some d → ∃ v u, X.mg x = some u ∧ RelV v u ∧ ∀ I, Dt X.K I v d
  fns : ∀ x n ks fn, C.fns x n ks = some fn → FnAt X.prog X.w X.K X.mg X.base k x n ks fn

/-! ### what soundness says -/
def SndE (X : Cx) (e : Expr) (m : S → Res D) : Prop := ∀ s d s', m s = .ok d s' → ∀ (F : Fx) (I H : Hp) (σ : St) (Q : VK), Rel X.K F I H σ s →
  (∀ v I' H', Same I I' → Rel X.K F I' H' σ s' → Dt X.K I' v d → Q v H') → EvE X e σ H Q
def SndT (X : Cx) (e : Expr) (m : S → Res Bool) : Prop := ∀ s b s', m s = .ok b s' → ∀ (F : Fx) (I H : Hp) (σ : St) (Q : Bool → Hp → Prop), Rel X.K F I H σ s →
  (∀ I' H', Same I I' → Rel X.K F I' H' σ s' → Q b H') → EvT X e σ H Q
/-- a new list that no slot holds -/
structure Fresh (K : PySem.W.Frag) (F : Fx) (I H : Hp) (σ : St) (s : S) (a : Addr) (ds : List D) : Prop where
  h0 : F.H0 a = none
  hI : I a = none
  hb : a ∉ F.bs
  ex : ∃ vs, H a = some (.lst vs) ∧ DtAll K I vs ds
  own : ∀ (i : Nat) (es : List D), s.g[i]? = some (Sl.own es) → σ[i]? ≠ some (some (V.ref a))
def SndL (X : Cx) (e : Expr) (m : S → Res (List D)) : Prop := ∀ s ds s', m s = .ok ds s' → ∀ (F : Fx) (I H : Hp) (σ : St) (Q : VK), Rel X.K F I H σ s →
  (∀ a I' H', Same I I' → Rel X.K F I' H' σ s' → Fresh X.K F I' H' σ s' a ds → Q (.ref a) H') → EvE X e σ H Q
def Walk (K : PySem.W.Frag) (J : It) (I : Hp) (ds : List D) : Prop := ∀ (i : Nat) (I2 H2 : Hp), Same I I2 → Same I2 H2 →
  (∀ d, ds[i]? = some d → J.go i H2 ∧ ∀ x H3, J.yld i H2 x H3 → (H3 = H2 ∧ Dt K I2 x d) ∨ ∃ T o, H2 T = none ∧ H3 = upd H2 T o ∧ Dt K (upd I2 T o) x d) ∧ (ds.length ≤ i → J.stop i H2)
def SndI (X : Cx) (tg iter : Expr) (m : S → Res (List D)) : Prop := ∀ s ds s', m s = .ok ds s' → ∀ (F : Fx) (I H : Hp) (σ : St) (R : It → Hp → Prop), Rel X.K F I H σ s →
  (∀ J I' H', Same I I' → Rel X.K F I' H' σ s' → Walk X.K J I' ds → R J H') → EvI X tg iter σ H R
def SndA (C : Cf) (X : Cx) (tg : Expr) (m : D → S → Res Unit) : Prop := ∀ d s s', m d s = .ok () s' → ∀ (F : Fx) (I H : Hp) (σ : St) (v : V) (Q : St → Hp → Prop), Rel X.K F I H σ s → Dt X.K I v d →
  (∀ I' H' σ', Same I I' → Rel X.K F I' H' σ' s' → σ'.length = σ.length → (∀ own m, tgIn C own m tg = true → ∀ (j : Nat), j ∉ own → σ'[j]? = σ[j]?) → Q σ' H') → EvG X tg v σ H Q
structure Snd (C : Cf) (X : Cx) (R : EvK) : Prop where
  e : ∀ e, SndE X e (R.e e)
  t : ∀ e, SndT X e (R.t e)
  l : ∀ e, SndL X e (R.l e)
  it : ∀ tg it, SndI X tg it (R.it tg it)
  asg : ∀ tg, SndA C X tg (R.asg tg)

/-! ### names -/
section
variable {k : Nat} {C : Cf} {X : Cx} {R : EvK}
theorem findIdx_get {N : List Str} {x : Str} {i : Nat} (h : N.findIdx? (· == x) = some i) : N[i]? = some x := by
  obtain ⟨h1, h2, _⟩ := List.findIdx?_eq_some_iff_getElem.mp h
  rw [List.getElem?_eq_getElem h1, eq_of_beq h2]
theorem slotOf_ok (cx : CtxOk k C X) {x : Str} {i : Nat} (h : slotOf C x = some i) : X.N[i]? = some x ∧ Vis X.env.scope x ∧ (x == ("__debug__" : Str)) = false ∧ (x == ("__classdict__" : Str)) = false := by
  unfold slotOf at h
  have go : (if okName x then C.N.findIdx? (· == x) else none) = some i → X.N[i]? = some x ∧ (x == ("__debug__" : Str)) = false ∧ (x == ("__classdict__" : Str)) = false := fun h => by
    by_cases q : okName x = true
    · rw [if_pos q] at h
      unfold okName at q
      rw [Bool.and_eq_true] at q
      obtain ⟨q1, q2⟩ := q
      exact ⟨by rw [cx.N]; exact findIdx_get h, by simpa using q1, by simpa using q2⟩
    · rw [if_neg q] at h; cases h
  unfold Vis
  rw [cx.sc]
  split at h
  · rename_i e; obtain ⟨a, b, c⟩ := go h; exact ⟨a, .inl e, b, c⟩
  · rename_i e; obtain ⟨a, b, c⟩ := go h; exact ⟨a, .inr (.inl e), b, c⟩
  · rename_i e; obtain ⟨a, b, c⟩ := go h; exact ⟨a, .inr (.inr e), b, c⟩
  · cases h
theorem locOf_ok (cx : CtxOk k C X) {x : Str} {i : Nat} (h : locOf C x = some i) : X.N[i]? = some x ∧ Loc X.env.scope x ∧ (X.fn x = true ∨ X.env.scope.names.lookup x = some .local) := by
  unfold locOf at h
  unfold L2.Loc
  rw [cx.sc]
  split at h
  · rename_i e; exact ⟨by rw [cx.N]; exact findIdx_get h, .inl e, .inr e⟩
  · rename_i e
    by_cases q : C.fn x = true
    · rw [if_pos q] at h
      exact ⟨by rw [cx.N]; exact findIdx_get h, .inr e, .inl (cx.fn x q)⟩
    · rw [if_neg q] at h; cases h
  · cases h
theorem isGl_ok (cx : CtxOk k C X) {x : Str} (h : isGl C x = true) : Gl X x ∧ (x == ("__debug__" : Str)) = false := by
  unfold isGl at h
  rw [Bool.and_eq_true] at h
  obtain ⟨h1, h2⟩ := h
  refine ⟨?_, by simpa using h2⟩
  unfold Gl Env.kindOf
  rw [cx.sc]
  split at h1
  · assumption
  · cases h1
theorem isBlt_ok (cx : CtxOk k C X) {x : Str} (h : isBlt C x = true) : Gl X x ∧ (x == ("__debug__" : Str)) = false ∧ X.mg x = none ∧ x ≠ "__name__" := by
  unfold isBlt at h
  rw [Bool.and_eq_true, Bool.and_eq_true] at h
  obtain ⟨⟨h1, h2⟩, h3⟩ := h
  obtain ⟨a, b⟩ := isGl_ok cx h1
  refine ⟨a, b, cx.blt x h2, fun z => ?_⟩
  subst z
  simp at h3
theorem pe_slot (cx : CtxOk k C X) {x : Str} {i : Nat} {pos : Pos} (h : slotOf C x = some i) : PE X (.Name x pos) (tVar i) := by
  obtain ⟨a, b, c, d⟩ := slotOf_ok cx h
  exact pe_var a b c d
theorem setSame {σ : St} {i : Nat} {v : V} (h : σ[i]? = some (some v)) : σ.set i (some v) = σ := by
  apply List.ext_getElem?
  intro j
  by_cases e : i = j
  · subst e; rw [List.getElem?_set_self (List.getElem?_eq_some_iff.mp h).1, h]
  · rw [List.getElem?_set_ne e]
theorem snd_rdS (cx : CtxOk k C X) {x : Str} {i : Nat} {pos : Pos} (h : slotOf C x = some i) : SndE X (.Name x pos) (rdS i) := by
  intro s d s' hm F I H σ Q R q
  refine ofPE (pe_slot cx h) ?_
  unfold rdS at hm
  split at hm
  · rename_i d' e
    cases hm
    obtain ⟨v, h1, h2⟩ := R.dat i _ e
    exact ⟨v, h1, q v I H (Same.refl I) R h2⟩
  · rename_i ds e
    cases hm
    obtain ⟨a, I', h1, h2, h3, h4⟩ := R.freeze e
    exact ⟨_, h1, q _ I' H h2 h4 h3⟩
  · cases hm
/-- a value whose list, if it is one, stands in the heap as it is now -/
inductive Pk (K : PySem.W.Frag) (I H : Hp) : V → D → Prop where
  | dat {v : V} {d : D} : Dt K I v d → Pk K I H v d
  | lst {a : Addr} {vs : List V} {ds : List D} : H a = some (.lst vs) → DtAll K I vs ds → Pk K I H (.ref a) (.list ds)
def SndP (X : Cx) (e : Expr) (m : S → Res D) : Prop := ∀ s d s', m s = .ok d s' → ∀ (F : Fx) (I H : Hp) (σ : St) (Q : VK), Rel X.K F I H σ s →
  (∀ v I' H', Same I I' → Rel X.K F I' H' σ s' → Pk X.K I' H' v d → Q v H') → EvE X e σ H Q
theorem pkS_at {i : Nat} {s s' : S} {d : D} (hm : pkS i s = .ok d s') {K : PySem.W.Frag} {F : Fx} {I H : Hp} {σ : St} (R : Rel K F I H σ s) : s' = s ∧ ∃ v, σ[i]? = some (some v) ∧ Pk K I H v d := by
  unfold pkS at hm
  split at hm
  · rename_i d' e
    cases hm
    obtain ⟨v, h1, h2⟩ := R.dat i _ e
    exact ⟨rfl, v, h1, .dat h2⟩
  · rename_i ds e
    cases hm
    obtain ⟨a, vs, h1, h2, h3, h4, h5, h6⟩ := R.own i _ e
    exact ⟨rfl, _, h1, .lst h5 h6⟩
  · rename_i m e
    split at hm
    · rename_i ds e2
      cases hm
      obtain ⟨a, h1, h2⟩ := R.bor i m e
      obtain ⟨vs, ds', h3, h4, h5, h6⟩ := R.bs m a h2
      rw [e2] at h3
      cases h3
      exact ⟨rfl, _, h1, .lst h5 h6⟩
    · cases hm
  · cases hm
theorem snd_pkE (cx : CtxOk k C X) (sn : Snd C X R) (e : Expr) : SndP X e (pkE C R e) := by
  intro s d s' hm F I H σ Q Rl q
  have gen : R.e e s = .ok d s' → EvE X e σ H Q := fun hm => sn.e e s d s' hm F I H σ Q Rl fun v I' H' a b c => q v I' H' a b (.dat c)
  cases e with
  | Name x p =>
    unfold pkE at hm
    cases hi : slotOf C x with
    | some i =>
      simp only [hi] at hm
      refine ofPE (pe_slot cx hi) ?_
      obtain ⟨rfl, v, h1, h2⟩ := pkS_at hm Rl
      exact ⟨v, h1, q v I H (Same.refl I) Rl h2⟩
    | none =>
      simp only [hi] at hm
      exact gen hm
  | _ => exact gen hm
theorem snd_name (cx : CtxOk k C X) {x : Str} {pos : Pos} : SndE X (.Name x pos) (evName C x) := by
  intro s d s' hm F I H σ Q Rl q
  unfold evName at hm
  cases hi : slotOf C x with
  | some i =>
    simp only [hi] at hm
    exact snd_rdS cx hi s d s' hm F I H σ Q Rl q
  | none =>
    simp only [hi] at hm
    by_cases hg : isGl C x = true
    · rw [if_pos hg] at hm
      obtain ⟨e, rfl⟩ := lift_ok hm
      obtain ⟨v, u, h1, h2, h3⟩ := cx.gl x d e
      obtain ⟨g1, g2⟩ := isGl_ok cx hg
      exact ofPE (pe_glob g1 h1 h2 g2) (q v I H (Same.refl I) Rl (h3 I))
    · rw [if_neg hg] at hm
      cases hm
end
end Bw
end

set_option Elab.async false
set_option linter.all false
set_option maxRecDepth 100000
set_option maxHeartbeats 4000000
noncomputable section
namespace Bw
open PySem L2 PySem.Spec

section
variable {X : Cx}
/-- xs + ys of lists that are read -/
def rCatR (K : PySem.W.Frag) : R2 := fun x y H Q => ∃ l b xs zs, x = .ref l ∧ y = .ref b ∧ SqL K H l xs ∧ SqL K H b zs ∧ xs.length + zs.length ≤ sizeLine ∧ ∀ p, H p = none → Q (.ref p) (upd H p (.lst (xs ++ zs)))
theorem op_catR : OpR X (binaryOp .Add) (rCatR X.K) := by
  intro pins s σ H x y v u Q I rx ry h
  obtain ⟨l, b, xs, zs, rfl, rfl, hH, hB, hz, q⟩ := h
  cases rx
  cases ry
  obtain ⟨its, r, ⟨⟨cls, dd, data, sl⟩, n, e, hc, _, hd⟩, _⟩ := I.list hH
  obtain ⟨its2, r2, ⟨⟨cls2, dd2, data2, sl2⟩, n2, e2, hc2, _, hd2⟩, _⟩ := I.list hB
  simp only at hc hd hc2 hd2
  subst hc hd hc2 hd2
  have hl := r.length
  have hl2 := r2.length
  have ea : its.toArray ++ its2.toArray = (its ++ its2).toArray := by simp
  refine concat_meets ⟨_, e, rfl⟩ ⟨_, e2, rfl⟩ noFill_list_add seq_list_add PySem.F.slot_list_add PySem.F.entry_list_add (PySem.F.args_list_add_2 _ _) (PyProof.Rows.list_addW l b its.toArray its2.toArray n n2 dd dd2 sl sl2 (by rw [List.size_toArray, List.size_toArray]; omega)) ⟨e, e2, ?_⟩
  rw [ea]
  exact ⟨.ref _, _, I.lnew (t' := s.toks) (r.append r2) (by rw [List.length_append]; omega), rfl, q _ I.fresh⟩
end

/-! ### two operands -/
section
variable {X : Cx} {k : Nat} {C : Cf}
/-- a rule for two values that are data -/
def Op2 (X : Cx) (f : Value → Value → Sem Value) (x y d : D) : Prop := ∃ r, OpR X f r ∧ ∀ (F : Fx) (I H : Hp) (σ : St) (s : S) (v u : V) (Q : VK), Rel X.K F I H σ s → Dt X.K I v x → Dt X.K I u y →
  (∀ w I' H', Same I I' → Rel X.K F I' H' σ s → Dt X.K I' w d → Q w H') → r v u H Q
theorem snd_bin {a b : Expr} {op : Operator} {pos : Pos} {ma mb : S → Res D} {f : D → D → Option D} (ha : SndE X a ma) (hb : SndE X b mb) (hop : ∀ x y d, f x y = some d → Op2 X (binaryOp op) x y d) :
    SndE X (.BinOp a op b pos) (bnd ma fun x => bnd mb fun y => lift (f x y)) := by
  intro s d s' hm F I H σ Q R q
  obtain ⟨x, s1, h1, h2⟩ := bnd_ok hm
  obtain ⟨y, s2, h3, h4⟩ := bnd_ok h2
  obtain ⟨e, rfl⟩ := lift_ok h4
  obtain ⟨r, hr, hq⟩ := hop x y d e
  refine fun pins sh inv => ?_
  refine wpAny_BinOp (thn (ha s x s1 h1 F I H σ (fun v H1 => ∃ I1, Same I I1 ∧ Rel X.K F I1 H1 σ s1 ∧ Dt X.K I1 v x) R (fun v I1 H1 a b c => ⟨I1, a, b, c⟩) pins sh inv) fun v1 sh1 ⟨v, H1, inv1, r1, I1, i1, R1, d1⟩ => ?_)
  refine thn (hb s1 y _ h3 F I1 H1 σ (fun u H2 => ∃ I2, Same I1 I2 ∧ Rel X.K F I2 H2 σ s' ∧ Dt X.K I2 u y) R1 (fun u I2 H2 a b c => ⟨I2, a, b, c⟩) pins sh1 inv1) fun u1 sh2 ⟨u, H2, inv2, r2, I2, i2, R2, d2⟩ => ?_
  exact hr pins sh2 σ H2 v u v1 u1 Q inv2 r1 r2 (hq F I2 H2 σ s' v u Q R2 (dp_mono i2 x d1) d2 fun w I3 H3 a b c => q w I3 H3 (i1.trans (i2.trans a)) b c)
theorem op2_int {f : Value → Value → Sem Value} {g : Int → Int → Int} (h : OpR X f (rI0 fun i j => .int (g i j))) (i j : Int) : Op2 X f (.int i) (.int j) (.int (g i j)) := by
  refine ⟨_, h, fun F I H σ s v u Q R d1 d2 q => ?_⟩
  cases d1
  cases d2
  exact ⟨i, j, rfl, rfl, q _ I H (Same.refl I) R (.int _)⟩
theorem op2_intC {f : Value → Value → Sem Value} {c : Int → Int → Prop} {g : Int → Int → Int} (h : OpR X f (rI c fun i j => .int (g i j))) {i j : Int} (hc : c i j) : Op2 X f (.int i) (.int j) (.int (g i j)) := by
  refine ⟨_, h, fun F I H σ s v u Q R d1 d2 q => ?_⟩
  cases d1
  cases d2
  exact ⟨i, j, rfl, rfl, hc, q _ I H (Same.refl I) R (.int _)⟩
theorem lay_lst {K : PySem.W.Frag} {F : Fx} {I H : Hp} {σ : St} {s : S} (R : Rel K F I H σ s) {p : Addr} (hp : H p = none) {vs : List V} {ds : List D} (h : DtAll K I vs ds) :
    Same I (upd I p (.lst vs)) ∧ Rel K F (upd I p (.lst vs)) (upd H p (.lst vs)) σ s ∧ Dt K (upd I p (.lst vs)) (.ref p) (.list ds) := by
  have sI : Same I (upd I p (.lst vs)) := same_new (R.freshI hp) _
  exact ⟨sI, R.lay hp, .lst (SqL.of upd_same) (dps_mono sI ds h)⟩
theorem lay_tup {K : PySem.W.Frag} {F : Fx} {I H : Hp} {σ : St} {s : S} (R : Rel K F I H σ s) {p : Addr} (hp : H p = none) {vs : List V} {ds : List D} (h : DtAll K I vs ds) :
    Same I (upd I p (.tup vs)) ∧ Rel K F (upd I p (.tup vs)) (upd H p (.tup vs)) σ s ∧ Dt K (upd I p (.tup vs)) (.ref p) (.tuple ds) := by
  have sI : Same I (upd I p (.tup vs)) := same_new (R.freshI hp) _
  exact ⟨sI, R.lay hp, .tup (SqT.of upd_same) (dps_mono sI ds h)⟩
theorem dtAll_nil {K : PySem.W.Frag} {H : Hp} {vs : List V} {ds : List D} (h : DtAll K H vs ds) : vs = [] ↔ ds = [] := by cases h <;> simp
theorem op2_bin {op : Operator} {x y d : D} (h : binD op x y = some d) : Op2 X (binaryOp op) x y d := by
  unfold binD at h
  split at h
  · cases h; exact op2_int op_add _ _
  · rename_i a b
    split at h <;> cases h
    rename_i hz
    refine ⟨_, op_catR, fun F I H σ s v u Q R d1 d2 q => ?_⟩
    cases d1 with | @lst l xs _ h1 h2 =>
    cases d2 with | @lst m ys _ h3 h4 =>
    refine ⟨l, m, xs, ys, rfl, rfl, R.le.seq h1, R.le.seq h3, by rw [dps_len h2, dps_len h4]; exact hz, fun p hp => ?_⟩
    obtain ⟨a1, a2, a3⟩ := lay_lst R hp (dps_append h2 h4)
    exact q _ _ _ a1 a2 a3
  · rename_i a b
    split at h <;> cases h
    rename_i hz
    refine ⟨_, op_catA, fun F I H σ s v u Q R d1 d2 q => ?_⟩
    cases d1 with | @tup l xs _ h1 h2 =>
    cases d2 with | @tup m ys _ h3 h4 =>
    refine ⟨l, m, xs, ys, rfl, rfl, sqT_mono R.le h1, sqT_mono R.le h3, by rw [dps_len h2, dps_len h4]; exact hz, fun e => ?_, fun _ e => ?_, fun _ _ p hp => ?_⟩
    · have := (dtAll_nil h2).mp e
      subst this
      exact q _ I H (Same.refl I) R (.tup h3 h4)
    · have := (dtAll_nil h4).mp e
      subst this
      rw [List.append_nil] at q
      exact q _ I H (Same.refl I) R (.tup h1 h2)
    · obtain ⟨a1, a2, a3⟩ := lay_tup R hp (dps_append h2 h4)
      exact q _ _ _ a1 a2 a3
  · rename_i a b
    split at h <;> cases h
    rename_i hz
    refine ⟨_, op_add_str, fun F I H σ s v u Q R d1 d2 q => ?_⟩
    cases d1
    cases d2
    exact ⟨a, b, rfl, rfl, hz, q _ I H (Same.refl I) R (.str _)⟩
  · cases h; exact op2_int op_sub _ _
  · split at h <;> cases h
    rename_i hc
    rcases hc with hc | hc
    · exact op2_intC op_mul hc
    · exact op2_intC op_mulW hc
  · split at h <;> cases h
    rename_i hc
    exact op2_intC op_fdivW hc
  · split at h <;> cases h
    rename_i hc
    exact op2_intC op_mod hc
  · split at h <;> cases h
    rename_i hc
    exact op2_intC op_pow hc
  · cases h; exact op2_int op_and _ _
  · cases h
theorem op2_aug {op : Operator} {x y d : D} (h : augD op x y = some d) : Op2 X (inplaceOp op) x y d := by
  unfold augD at h
  split at h
  · cases h; exact op2_int iop_add _ _
  · cases h; exact op2_int iop_sub _ _
  · split at h <;> cases h
    rename_i hc
    exact op2_intC iop_mul hc
  · split at h <;> cases h
    rename_i hc
    exact op2_intC iop_fdivW hc
  · cases h
end
end Bw
end

set_option Elab.async false
set_option linter.all false
set_option maxRecDepth 100000
set_option maxHeartbeats 4000000
noncomputable section
namespace Bw
open PySem L2 PySem.Spec

/-! ### comparisons -/
section
variable {K : PySem.W.Frag} {I H : Hp}
theorem pk_dp (e : Same I H) {v : V} {d : D} (h : Pk K I H v d) : Dp K H v d := by
  cases h with
  | dat h => exact (dp_mono e d h).dp
  | lst h1 h2 => exact .lst (SqL.of h1) (dps_mono e _ h2).dp
theorem flat_of {v : V} {d : D} (h : Dt K I v d) (f : flatD d = true) : flatV v = true := by
  cases h <;> first | rfl | cases f
theorem flats_of : ∀ {vs : List V} {ds : List D}, DtAll K I vs ds → ds.all flatD = true → vs.all flatV = true
  | _, _, .nil, _ => rfl
  | _, _, .cons h t, f => by
    rw [List.all_cons, Bool.and_eq_true] at f ⊢
    exact ⟨flat_of h f.1, flats_of t f.2⟩
theorem eqV_of {v u : V} {d e : D} (h : Dt K I v d) (h' : Dt K I u e) (f : flatD d = true) (f' : flatD e = true) : eqV v u = PyData.eqv d e := by
  cases h <;> first | (cases f; done) | (cases h' <;> first | (cases f'; done) | rfl)
theorem inV_of {v : V} {d : D} (h : Dt K I v d) (f : flatD d = true) : ∀ {vs : List V} {ds : List D}, DtAll K I vs ds → ds.all flatD = true → inV v vs = inD d ds
  | _, _, .nil, _ => rfl
  | _, _, .cons h1 t, g => by
    rw [List.all_cons, Bool.and_eq_true] at g
    have ih := inV_of h f t g.2
    unfold inV inD at ih ⊢
    rw [List.any_cons, List.any_cons, ih, eqV_of h1 h g.1 f]
/-- a sequence that is looked at -/
theorem pk_list (e : Same I H) {v : V} {ds : List D} (h : Pk K I H v (.list ds)) : ∃ a vs, v = .ref a ∧ SqL K H a vs ∧ DtAll K I vs ds := by
  cases h with
  | dat h => cases h with | lst h1 h2 => exact ⟨_, _, rfl, e.seq h1, h2⟩
  | lst h1 h2 => exact ⟨_, _, rfl, SqL.of h1, h2⟩
theorem pk_tup (e : Same I H) {v : V} {ds : List D} (h : Pk K I H v (.tuple ds)) : ∃ a vs, v = .ref a ∧ SqT K H a vs ∧ DtAll K I vs ds := by
  cases h with
  | dat h => cases h with | tup h1 h2 => exact ⟨_, _, rfl, sqT_mono e h1, h2⟩
theorem pk_dat {v : V} {d : D} (h : Pk K I H v d) (n : ∀ ds, d ≠ .list ds) : Dt K I v d := by
  cases h with
  | dat h => exact h
  | lst h1 h2 => exact absurd rfl (n _)
end
section
variable {X : Cx} {k : Nat} {C : Cf} {R : EvK}
def CmpR (X : Cx) (op : CmpOp) (x y : D) (b : Bool) : Prop := ∃ r, OpR X (compareOp op) r ∧ ∀ (I H : Hp) (v u : V) (Q : VK), Same I H → Dt X.K I v x → Pk X.K I H u y → Q (.bl b) H → r v u H Q
theorem cmp_int {op : CmpOp} {g : Int → Int → Bool} (h : OpR X (compareOp op) (rI0 fun i j => .bl (g i j))) (i j : Int) : CmpR X op (.int i) (.int j) (g i j) := by
  refine ⟨_, h, fun I H v u Q _ d1 d2 q => ?_⟩
  cases d1
  cases pk_dat d2 (fun _ z => by cases z)
  exact ⟨i, j, rfl, rfl, q⟩
theorem cmp_eqD (hu : X.A.units + 64 < cLine) {x y : D} (h : (SeqAt.shaped x && SeqAt.shaped y) = true) : CmpR X .Eq x y (PyData.eqv x y) := by
  rw [Bool.and_eq_true] at h
  exact ⟨_, op_eqD hu, fun I H v u Q e d1 d2 q => ⟨x, y, (dp_mono e x d1).dp, pk_dp e d2, h.1, h.2, q⟩⟩
theorem cmp_neD (hu : X.A.units + 64 < cLine) {x y : D} (h : (SeqAt.shaped x && SeqAt.shaped y) = true) : CmpR X .NotEq x y (!PyData.eqv x y) := by
  rw [Bool.and_eq_true] at h
  exact ⟨_, op_neD hu, fun I H v u Q e d1 d2 q => ⟨x, y, (dp_mono e x d1).dp, pk_dp e d2, h.1, h.2, q⟩⟩
theorem cmp_inL {x : D} {ys : List D} (h : (flatD x && ys.all flatD) = true) : CmpR X .In x (.list ys) (inD x ys) := by
  rw [Bool.and_eq_true] at h
  refine ⟨_, op_in_seq, fun I H v u Q e d1 d2 q => ?_⟩
  obtain ⟨a, vs, rfl, h1, h2⟩ := pk_list e d2
  refine ⟨a, vs, rfl, .inl (h1), flat_of d1 h.1, flats_of h2 h.2, ?_⟩
  show Q (.bl (inV v vs)) H
  rw [inV_of d1 h.1 h2 h.2]
  exact q
theorem cmp_inT {x : D} {ys : List D} (h : (flatD x && ys.all flatD) = true) : CmpR X .In x (.tuple ys) (inD x ys) := by
  rw [Bool.and_eq_true] at h
  refine ⟨_, op_in_seq, fun I H v u Q e d1 d2 q => ?_⟩
  obtain ⟨a, vs, rfl, h1, h2⟩ := pk_tup e d2
  refine ⟨a, vs, rfl, .inr h1, flat_of d1 h.1, flats_of h2 h.2, ?_⟩
  show Q (.bl (inV v vs)) H
  rw [inV_of d1 h.1 h2 h.2]
  exact q
theorem cmp_ninL {x : D} {ys : List D} (h : (flatD x && ys.all flatD) = true) : CmpR X .NotIn x (.list ys) (!inD x ys) := by
  rw [Bool.and_eq_true] at h
  refine ⟨_, op_notIn_seq, fun I H v u Q e d1 d2 q => ?_⟩
  obtain ⟨a, vs, rfl, h1, h2⟩ := pk_list e d2
  refine ⟨a, vs, rfl, .inl (h1), flat_of d1 h.1, flats_of h2 h.2, ?_⟩
  show Q (.bl (!inV v vs)) H
  rw [inV_of d1 h.1 h2 h.2]
  exact q
theorem cmp_ninT {x : D} {ys : List D} (h : (flatD x && ys.all flatD) = true) : CmpR X .NotIn x (.tuple ys) (!inD x ys) := by
  rw [Bool.and_eq_true] at h
  refine ⟨_, op_notIn_seq, fun I H v u Q e d1 d2 q => ?_⟩
  obtain ⟨a, vs, rfl, h1, h2⟩ := pk_tup e d2
  refine ⟨a, vs, rfl, .inr h1, flat_of d1 h.1, flats_of h2 h.2, ?_⟩
  show Q (.bl (!inV v vs)) H
  rw [inV_of d1 h.1 h2 h.2]
  exact q
def isN : D → Bool
  | .none => true
  | _ => false
theorem dt_non {K : PySem.W.Frag} {I : Hp} {v : V} {d : D} (h : Dt K I v d) : decide (v = .non) = isN d := by
  cases h <;> simp [isN]
theorem cmp_ok (hu : X.A.units + 64 < cLine) {op : CmpOp} {x y : D} {b : Bool} (h : cmpD op x y = some b) : CmpR X op x y b := by
  have isn : ∀ {x : D} {b : Bool}, isN x = b → CmpR X .Is x .none b := fun {x b} e => by
    refine ⟨_, op_isN, fun I H v u Q _ d1 d2 q => ?_⟩
    cases pk_dat d2 (fun _ z => by cases z)
    refine ⟨rfl, ?_⟩
    rw [dt_non d1, e]
    exact q
  have ntn : ∀ {x : D} {b : Bool}, (!isN x) = b → CmpR X .IsNot x .none b := fun {x b} e => by
    refine ⟨_, op_notN, fun I H v u Q _ d1 d2 q => ?_⟩
    cases pk_dat d2 (fun _ z => by cases z)
    refine ⟨rfl, ?_⟩
    rw [dt_non d1, e]
    exact q
  have eqs : ∀ {x y : V} {d e : D} , (∀ I H, ∀ {v : V}, Dt X.K I v d → v = x) → (∀ I, ∀ {v : V}, Dt X.K I v e → v = y) → (∀ ds, e ≠ .list ds) → scal x y = true → CmpR X .Eq d e (decide (x = y)) := fun {x y d e} hx hy hn hs => by
    refine ⟨_, op_eq, fun I H v u Q _ d1 d2 q => ?_⟩
    cases hx I H d1
    cases hy I (pk_dat d2 hn)
    exact ⟨hs, q⟩
  have nes : ∀ {x y : V} {d e : D} , (∀ I H, ∀ {v : V}, Dt X.K I v d → v = x) → (∀ I, ∀ {v : V}, Dt X.K I v e → v = y) → (∀ ds, e ≠ .list ds) → scal x y = true → CmpR X .NotEq d e (!decide (x = y)) := fun {x y d e} hx hy hn hs => by
    refine ⟨_, op_ne, fun I H v u Q _ d1 d2 q => ?_⟩
    cases hx I H d1
    cases hy I (pk_dat d2 hn)
    exact ⟨hs, q⟩
  unfold cmpD at h
  split at h
  · cases h; rw [ltB_eq]; exact cmp_int op_lt _ _
  · cases h; rw [leB_eq]; exact cmp_int op_le _ _
  · cases h; rw [ltB_eq]; exact cmp_int op_gt _ _
  · cases h; rw [leB_eq]; exact cmp_int op_ge _ _
  · rename_i i j
    cases h
    refine ⟨_, op_lt_str, fun I H v u Q _ d1 d2 q => ?_⟩
    cases d1
    cases pk_dat d2 (fun _ z => by cases z)
    exact ⟨i, j, rfl, rfl, q⟩
  · rename_i i j
    cases h
    rw [eqB_eq]
    have := eqs (x := .int i) (y := .int j) (d := .int i) (e := .int j) (fun _ _ _ h => by cases h; rfl) (fun _ _ h => by cases h; rfl) (fun _ z => by cases z) rfl
    simpa using this
  · rename_i i j
    cases h
    have := eqs (x := .str i) (y := .str j) (d := .str i) (e := .str j) (fun _ _ _ h => by cases h; rfl) (fun _ _ h => by cases h; rfl) (fun _ z => by cases z) rfl
    simpa using this
  · rename_i i j
    cases h
    have := eqs (x := .bl i) (y := .bl j) (d := .bool i) (e := .bool j) (fun _ _ _ h => by cases h; rfl) (fun _ _ h => by cases h; rfl) (fun _ z => by cases z) rfl
    simpa using this
  · split at h <;> cases h
    rename_i hc
    exact cmp_eqD hu hc
  · rename_i i j
    cases h
    rw [eqB_eq]
    have := nes (x := .int i) (y := .int j) (d := .int i) (e := .int j) (fun _ _ _ h => by cases h; rfl) (fun _ _ h => by cases h; rfl) (fun _ z => by cases z) rfl
    simpa using this
  · rename_i i j
    cases h
    have := nes (x := .str i) (y := .str j) (d := .str i) (e := .str j) (fun _ _ _ h => by cases h; rfl) (fun _ _ h => by cases h; rfl) (fun _ z => by cases z) rfl
    simpa using this
  · rename_i i j
    cases h
    have := nes (x := .bl i) (y := .bl j) (d := .bool i) (e := .bool j) (fun _ _ _ h => by cases h; rfl) (fun _ _ h => by cases h; rfl) (fun _ z => by cases z) rfl
    simpa using this
  · split at h <;> cases h
    rename_i hc
    exact cmp_neD hu hc
  · split at h <;> cases h
    rename_i hc
    exact cmp_inL hc
  · split at h <;> cases h
    rename_i hc
    exact cmp_inT hc
  · rename_i i j
    cases h
    refine ⟨_, op_in_str, fun I H v u Q _ d1 d2 q => ?_⟩
    cases d1
    cases pk_dat d2 (fun _ z => by cases z)
    exact ⟨i, j, rfl, rfl, q⟩
  · split at h <;> cases h
    rename_i hc
    exact cmp_ninL hc
  · split at h <;> cases h
    rename_i hc
    exact cmp_ninT hc
  · rename_i i j
    cases h
    refine ⟨_, op_notIn_str, fun I H v u Q _ d1 d2 q => ?_⟩
    cases d1
    cases pk_dat d2 (fun _ z => by cases z)
    exact ⟨i, j, rfl, rfl, q⟩
  · cases h; exact isn rfl
  · rename_i hx
    cases h
    exact isn (by unfold isN; split <;> first | rfl | (exact absurd rfl hx))
  · cases h; exact ntn rfl
  · rename_i hx
    cases h
    exact ntn (by unfold isN; split <;> first | rfl | (exact absurd rfl hx))
  · cases h
theorem noMark_of {op : CmpOp} {b : Expr} (h : notSet b = true) : behindInMarks op b = false := by
  cases b <;> first | rfl | cases h
/-- the way of a comparison, one or two -/
theorem snd_cmp1 (cx : CtxOk k C X) (sn : Snd C X R) {a b : Expr} {op : CmpOp} {s s' : S} {kb : Bool} (hm : cmpE C R a [op] [b] s = .ok kb s') : notSet b = true ∧ ∃ r, OpR X (compareOp op) r ∧
    ∀ (F : Fx) (I H : Hp) (σ : St) (Q : VK), Rel X.K F I H σ s → (∀ I' H', Same I I' → Rel X.K F I' H' σ s' → Q (.bl kb) H') → tOp r (EvE X a) (EvE X b) σ H Q := by
  unfold cmpE at hm
  simp only at hm
  by_cases hb : notSet b = true
  · rw [if_pos hb] at hm
    obtain ⟨x, s1, h1, h2⟩ := bnd_ok hm
    obtain ⟨y, s2, h3, h4⟩ := bnd_ok h2
    obtain ⟨e, rfl⟩ := lift_ok h4
    obtain ⟨r, hr, hq⟩ := cmp_ok cx.room.units e
    refine ⟨hb, r, hr, fun F I H σ Q Rl q => ?_⟩
    refine sn.e a s x s1 h1 F I H σ _ Rl fun v I1 H1 i1 R1 d1 => ?_
    refine snd_pkE cx sn b s1 y s' h3 F I1 H1 σ _ R1 fun u I2 H2 i2 R2 d2 => ?_
    exact hq I2 H2 v u Q R2.le (dp_mono i2 x d1) d2 (q I2 H2 (i1.trans i2) R2)
  · rw [if_neg hb] at hm
    cases hm
theorem snd_cmp2 (cx : CtxOk k C X) (sn : Snd C X R) {a b c : Expr} {op op' : CmpOp} {s s' : S} {kb : Bool} (hm : cmpE C R a [op, op'] [b, c] s = .ok kb s') : notSet c = true ∧ ∃ r r', OpR X (compareOp op) r ∧ OpR X (compareOp op') r' ∧
    ∀ (F : Fx) (I H : Hp) (σ : St) (Q : VK), Rel X.K F I H σ s → (∀ I' H', Same I I' → Rel X.K F I' H' σ s' → Q (.bl kb) H') → tChain r r' (EvE X a) (EvE X b) (EvE X c) σ H Q := by
  unfold cmpE at hm
  simp only at hm
  by_cases hb : (notSet b && notSet c) = true
  · rw [if_pos hb] at hm
    rw [Bool.and_eq_true] at hb
    obtain ⟨x, s1, h1, h2⟩ := bnd_ok hm
    obtain ⟨y, s2, h3, h4⟩ := bnd_ok h2
    obtain ⟨k1, s3, h5, h6⟩ := bnd_ok h4
    obtain ⟨e, rfl⟩ := lift_ok h5
    obtain ⟨r, hr, hq⟩ := cmp_ok cx.room.units e
    cases k1 with
    | false =>
      rw [if_neg Bool.false_ne_true] at h6
      obtain ⟨rfl, rfl⟩ := ret_ok h6
      refine ⟨hb.2, r, (fun _ _ _ _ => False), hr, (fun _ _ _ _ _ _ _ _ _ _ _ _ h => h.elim), fun F I H σ Q Rl q => ?_⟩
      refine sn.e a s x s1 h1 F I H σ _ Rl fun v I1 H1 i1 R1 d1 => ?_
      refine sn.e b s1 y _ h3 F I1 H1 σ _ R1 fun u I2 H2 i2 R2 d2 => ?_
      refine hq I2 H2 v u _ R2.le (dp_mono i2 x d1) (.dat d2) ⟨false, rfl, ?_⟩
      rw [if_neg Bool.false_ne_true]
      exact q I2 H2 (i1.trans i2) R2
    | true =>
      rw [if_pos rfl] at h6
      obtain ⟨z, s4, h7, h8⟩ := bnd_ok h6
      obtain ⟨e', rfl⟩ := lift_ok h8
      obtain ⟨r', hr', hq'⟩ := cmp_ok cx.room.units e'
      refine ⟨hb.2, r, r', hr, hr', fun F I H σ Q Rl q => ?_⟩
      refine sn.e a s x s1 h1 F I H σ _ Rl fun v I1 H1 i1 R1 d1 => ?_
      refine sn.e b s1 y _ h3 F I1 H1 σ _ R1 fun u I2 H2 i2 R2 d2 => ?_
      refine hq I2 H2 v u _ R2.le (dp_mono i2 x d1) (.dat d2) ⟨true, rfl, ?_⟩
      rw [if_pos rfl]
      refine sn.e c _ z _ h7 F I2 H2 σ _ R2 fun w I3 H3 i3 R3 d3 => ?_
      exact hq' I3 H3 u w Q R3.le (dp_mono i3 y d2) (.dat d3) (q I3 H3 (i1.trans (i2.trans i3)) R3)
  · rw [if_neg hb] at hm
    cases hm
theorem last_marks {op op' : CmpOp} {b c : Expr} (h : notSet c = true) : lastMarks [op, op'] [b, c] = false := by
  show behindInMarks op' c = false
  exact noMark_of h
theorem snd_cmpE (cx : CtxOk k C X) (sn : Snd C X R) {a : Expr} {ops : List CmpOp} {bs : List Expr} {pos : Pos} : SndE X (.Compare a ops bs pos) (bnd (cmpE C R a ops bs) fun k => ret (.bool k)) := by
  intro s d s' hm F I H σ Q Rl q
  obtain ⟨kb, s1, h1, h2⟩ := bnd_ok hm
  obtain ⟨rfl, rfl⟩ := ret_ok h2
  match ops, bs, h1 with
  | [op], [b], h1 =>
    obtain ⟨hb, r, hr, hq⟩ := snd_cmp1 cx sn h1
    exact ofPE (pe_cmpR hr (pe_w a) (pe_w b) (noMark_of hb)) (hq F I H σ _ Rl fun I' H' i1 R1 => q _ I' H' i1 R1 (.bl kb))
  | [op, op'], [b, c], h1 =>
    obtain ⟨hb, r, r', hr, hr', hq⟩ := snd_cmp2 cx sn h1
    exact ofPE (pe_chain hr hr' (pe_w a) (pe_w b) (pe_w c) (last_marks hb)) (hq F I H σ _ Rl fun I' H' i1 R1 => q _ I' H' i1 R1 (.bl kb))
  | [], _, h1 => cases h1
  | [_], [], h1 => cases h1
  | [_], _ :: _ :: _, h1 => cases h1
  | [_, _], [], h1 => cases h1
  | [_, _], [_], h1 => cases h1
  | [_, _], _ :: _ :: _ :: _, h1 => cases h1
  | _ :: _ :: _ :: _, _, h1 => cases h1
theorem snd_cmpT (cx : CtxOk k C X) (sn : Snd C X R) {a : Expr} {ops : List CmpOp} {bs : List Expr} {pos : Pos} : SndT X (.Compare a ops bs pos) (cmpE C R a ops bs) := by
  intro s kb s' h1 F I H σ Q Rl q
  match ops, bs, h1 with
  | [op], [b], h1 =>
    obtain ⟨hb, r, hr, hq⟩ := snd_cmp1 cx sn h1
    exact ofPT (pt_cmpR hr (pe_w a) (pe_w b) (noMark_of hb)) (hq F I H σ _ Rl fun I' H' i1 R1 => ⟨kb, rfl, q I' H' i1 R1⟩)
  | [op, op'], [b, c], h1 =>
    obtain ⟨hb, r, r', hr, hr', hq⟩ := snd_cmp2 cx sn h1
    exact ofPT (pt_chain hr hr' (pe_w a) (pe_w b) (pe_w c) (last_marks hb)) (hq F I H σ _ Rl fun I' H' i1 R1 => ⟨kb, rfl, q I' H' i1 R1⟩)
  | [], _, h1 => cases h1
  | [_], [], h1 => cases h1
  | [_], _ :: _ :: _, h1 => cases h1
  | [_, _], [], h1 => cases h1
  | [_, _], [_], h1 => cases h1
  | [_, _], _ :: _ :: _ :: _, h1 => cases h1
  | _ :: _ :: _ :: _, _, h1 => cases h1
end
end Bw
end

set_option Elab.async false
set_option linter.all false
set_option maxRecDepth 100000
set_option maxHeartbeats 4000000
noncomputable section
namespace Bw
open PySem L2 PySem.Spec

section
variable {X : Cx} {k : Nat} {C : Cf} {R : EvK}
/-! ### lists of expressions -/
def EvA (X : Cx) (es : List Expr) : TA := fun σ H Q => ∀ (pos : Pos) (pins : List (Addr × Obj)) (s : Shared), Inv X pins σ H s → wpAny (model X.prog X.w) X.A (spliced (backTo pos (starEach es X.env))) (AP X pins σ Q) X.xe s
theorem pa_w (es : List Expr) : PA X es (EvA X es) := ⟨fun pos pins s _ _ _ I h => h pos pins s I⟩
theorem ofPA {es : List Expr} {t : TA} {σ : St} {H : Hp} {Q : List V → Hp → Prop} (h : PA X es t) (w : t σ H Q) : EvA X es σ H Q := fun pos pins s I => h.run pos pins s σ H Q I w
theorem star_cons {e : Expr} (h : noStar e = true) (es : List Expr) (env : Env) : starEach (e :: es) env = (false, eval e env) :: starEach es env := by
  cases e <;> first | rfl | cases h
theorem noStars_any : ∀ {es : List Expr} {env : Env} {pos : Pos}, es.all noStar = true → (backTo pos (starEach es env)).any (·.1) = false
  | [], _, _, _ => rfl
  | e :: es, env, pos, h => by
    rw [List.all_cons, Bool.and_eq_true] at h
    rw [star_cons h.1]
    show (false || (backTo pos (starEach es env)).any (·.1)) = false
    rw [Bool.false_or]
    exact noStars_any h.2
theorem snd_evs (sn : ∀ e, SndE X e (R.e e)) : ∀ (es : List Expr), es.all noStar = true → ∀ (s : S) (ds : List D) (s' : S), evs R.e es s = .ok ds s' → ∀ (F : Fx) (I H : Hp) (σ : St) (Q : List V → Hp → Prop), Rel X.K F I H σ s →
    (∀ vs I' H', Same I I' → Rel X.K F I' H' σ s' → DtAll X.K I' vs ds → Q vs H') → EvA X es σ H Q
  | [], _, s, ds, s', hm, F, I, H, σ, Q, Rl, q => by
    obtain ⟨rfl, rfl⟩ := ret_ok (show ret [] s = .ok ds s' from hm)
    exact ofPA pa_nil (q [] I H (Same.refl I) Rl .nil)
  | e :: es, hs, s, ds, s', hm, F, I, H, σ, Q, Rl, q => by
    rw [List.all_cons, Bool.and_eq_true] at hs
    obtain ⟨d, s1, h1, h2⟩ := bnd_ok (show bnd (R.e e) (fun d => bnd (evs R.e es) fun ds => ret (d :: ds)) s = .ok ds s' from hm)
    obtain ⟨ds', s2, h3, h4⟩ := bnd_ok h2
    obtain ⟨rfl, rfl⟩ := ret_ok h4
    refine ofPA (pa_cons (pe_w e) (pa_w es) (star_cons hs.1 es X.env)) ?_
    refine sn e s d s1 h1 F I H σ _ Rl fun v I1 H1 i1 R1 d1 => ?_
    refine snd_evs sn es hs.2 s1 ds' _ h3 F I1 H1 σ _ R1 fun vs I2 H2 i2 R2 d2 => ?_
    exact q (v :: vs) I2 H2 (i1.trans i2) R2 (.cons (dp_mono i2 d d1) d2)
theorem snd_tuple (sn : ∀ e, SndE X e (R.e e)) {es : List Expr} {x1 : Nat} {pos : Pos} (hs : es.all noStar = true) : SndE X (.Tuple es x1 pos) (bnd (evs R.e es) fun ds => lift (if ds.length ≤ sizeLine then some (.tuple ds) else none)) := by
  intro s d s' hm F I H σ Q Rl q
  obtain ⟨ds, s1, h1, h2⟩ := bnd_ok hm
  obtain ⟨e, rfl⟩ := lift_ok h2
  split at e <;> cases e
  rename_i hz
  refine ofPE (pe_tup (pa_w es)) (snd_evs sn es hs s ds _ h1 F I H σ _ Rl fun vs I1 H1 i1 R1 d1 => ⟨by rw [dps_len d1]; exact hz, fun p hp => ?_⟩)
  obtain ⟨a1, a2, a3⟩ := lay_tup R1 hp d1
  exact q _ _ _ (i1.trans a1) a2 a3
/-- a new list as it was made -/
theorem fresh_new {K : PySem.W.Frag} {F : Fx} {I H : Hp} {σ : St} {s : S} (Rl : Rel K F I H σ s) {p : Addr} (hp : H p = none) {vs : List V} {ds : List D} (h : DtAll K I vs ds) : Rel K F I (upd H p (.lst vs)) σ s ∧ Fresh K F I (upd H p (.lst vs)) σ s p ds := by
  refine ⟨Rl.layO hp, Rl.fresh0 hp, Rl.freshI hp, Rl.freshB hp, ⟨vs, upd_same, h⟩, fun i es e z => ?_⟩
  obtain ⟨a, ws, h1, _, _, _, h5, _⟩ := Rl.own i es e
  rw [z] at h1
  cases h1
  rw [hp] at h5
  cases h5
theorem snd_list (sn : ∀ e, SndE X e (R.e e)) {es : List Expr} {pos : Pos} (hs : es.all noStar = true) : SndL X (.List es pos) (bnd (evs R.e es) fun ds => lift (if ds.length ≤ sizeLine then some ds else none)) := by
  intro s d s' hm F I H σ Q Rl q
  obtain ⟨ds, s1, h1, h2⟩ := bnd_ok hm
  obtain ⟨e, rfl⟩ := lift_ok h2
  split at e <;> cases e
  rename_i hz
  refine ofPE (pe_lst (pa_w es)) (snd_evs sn es hs s _ _ h1 F I H σ _ Rl fun vs I1 H1 i1 R1 d1 => ⟨by rw [dps_len d1]; exact hz, fun p hp => ?_⟩)
  obtain ⟨a1, a2⟩ := fresh_new R1 hp d1
  exact q p I1 _ i1 a1 a2
/-- a new list that is handed on -/
theorem seal_fresh {K : PySem.W.Frag} {F : Fx} {I H : Hp} {σ : St} {s : S} (Rl : Rel K F I H σ s) {a : Addr} {ds : List D} (f : Fresh K F I H σ s a ds) : ∃ I', Same I I' ∧ Rel K F I' H σ s ∧ Dt K I' (.ref a) (.list ds) := by
  obtain ⟨vs, h1, h2⟩ := f.ex
  have sI : Same I (upd I a (.lst vs)) := same_new f.hI _
  exact ⟨_, sI, Rl.seal h1 f.h0 f.hI f.hb f.own, .lst (SqL.of upd_same) (dps_mono sI ds h2)⟩
theorem snd_ofL {e : Expr} {m : S → Res (List D)} (h : SndL X e m) : SndE X e (bnd m fun ds => ret (.list ds)) := by
  intro s d s' hm F I H σ Q Rl q
  obtain ⟨ds, s1, h1, h2⟩ := bnd_ok hm
  obtain ⟨rfl, rfl⟩ := ret_ok h2
  refine h s ds _ h1 F I H σ Q Rl fun a I1 H1 i1 R1 f => ?_
  obtain ⟨I2, i2, R2, d2⟩ := seal_fresh R1 f
  exact q _ I2 H1 (i1.trans i2) R2 d2

/-! ### not, -, and, or, if -/
theorem snd_notV (sn : ∀ e, SndE X e (R.e e)) {a : Expr} {pos : Pos} : SndE X (.UnaryOp .Not a pos) (bnd (R.e a) fun x => lift ((boolD x).map fun c => .bool (!c))) := by
  intro s d s' hm F I H σ Q Rl q
  obtain ⟨x, s1, h1, h2⟩ := bnd_ok hm
  obtain ⟨e, rfl⟩ := lift_ok h2
  cases x <;> try (cases e; done)
  rename_i c
  cases e
  refine ofPE (pe_not (pe_w a)) (sn a s _ _ h1 F I H σ _ Rl fun v I1 H1 i1 R1 d1 => ?_)
  cases d1
  exact ⟨c, rfl, q _ I1 H1 i1 R1 (.bl _)⟩
theorem snd_neg (sn : ∀ e, SndE X e (R.e e)) {a : Expr} {pos : Pos} : SndE X (.UnaryOp .USub a pos) (bnd (R.e a) fun x => lift (negD x)) := by
  intro s d s' hm F I H σ Q Rl q
  obtain ⟨x, s1, h1, h2⟩ := bnd_ok hm
  obtain ⟨e, rfl⟩ := lift_ok h2
  cases x <;> try (cases e; done)
  rename_i c
  cases e
  refine ofPE (pe_un un_neg (pe_w a)) (sn a s _ _ h1 F I H σ _ Rl fun v I1 H1 i1 R1 d1 => ?_)
  cases d1
  exact ⟨c, rfl, q _ I1 H1 i1 R1 (.int _)⟩
theorem snd_andV (sn : ∀ e, SndE X e (R.e e)) {pos : Pos} : ∀ es : List Expr, SndE X (.BoolOp .And es pos) (andV R es)
  | [] => fun s d s' hm => by cases hm
  | [a] => fun s d s' hm F I H σ Q Rl q => ofPE (pe_one (pe_w a)) (sn a s d s' hm F I H σ Q Rl q)
  | a :: b :: r => fun s d s' hm F I H σ Q Rl q => by
    obtain ⟨x, s1, h1, h2⟩ := bnd_ok (show bnd (R.e a) (fun x => bnd (lift (boolD x)) fun c => if c then andV R (b :: r) else ret (.bool false)) s = .ok d s' from hm)
    obtain ⟨c, s2, h3, h4⟩ := bnd_ok h2
    obtain ⟨e, rfl⟩ := lift_ok h3
    cases x <;> try (cases e; done)
    cases e
    refine ofPE (pe_and (pe_w a) (pe_w (.BoolOp .And (b :: r) pos))) (sn a s _ _ h1 F I H σ _ Rl fun v I1 H1 i1 R1 d1 => ?_)
    cases d1
    refine ⟨c, rfl, ?_⟩
    cases c with
    | true =>
      rw [if_pos rfl] at h4 ⊢
      exact snd_andV sn (b :: r) _ d s' h4 F I1 H1 σ Q R1 fun v I2 H2 i2 => q v I2 H2 (i1.trans i2)
    | false =>
      rw [if_neg Bool.false_ne_true] at h4 ⊢
      obtain ⟨rfl, rfl⟩ := ret_ok h4
      exact q _ I1 H1 i1 R1 (.bl _)
theorem snd_orV (sn : ∀ e, SndE X e (R.e e)) {pos : Pos} : ∀ es : List Expr, SndE X (.BoolOp .Or es pos) (orV R es)
  | [] => fun s d s' hm => by cases hm
  | [a] => fun s d s' hm F I H σ Q Rl q => ofPE (pe_one (pe_w a)) (sn a s d s' hm F I H σ Q Rl q)
  | a :: b :: r => fun s d s' hm F I H σ Q Rl q => by
    obtain ⟨x, s1, h1, h2⟩ := bnd_ok (show bnd (R.e a) (fun x => bnd (lift (boolD x)) fun c => if c then ret (.bool true) else orV R (b :: r)) s = .ok d s' from hm)
    obtain ⟨c, s2, h3, h4⟩ := bnd_ok h2
    obtain ⟨e, rfl⟩ := lift_ok h3
    cases x <;> try (cases e; done)
    cases e
    refine ofPE (pe_or (pe_w a) (pe_w (.BoolOp .Or (b :: r) pos))) (sn a s _ _ h1 F I H σ _ Rl fun v I1 H1 i1 R1 d1 => ?_)
    cases d1
    refine ⟨c, rfl, ?_⟩
    cases c with
    | false =>
      rw [if_neg Bool.false_ne_true] at h4 ⊢
      exact snd_orV sn (b :: r) _ d s' h4 F I1 H1 σ Q R1 fun v I2 H2 i2 => q v I2 H2 (i1.trans i2)
    | true =>
      rw [if_pos rfl] at h4 ⊢
      obtain ⟨rfl, rfl⟩ := ret_ok h4
      exact q _ I1 H1 i1 R1 (.bl _)
/-- a chain of tests, whatever its whole is -/
def EvW (X : Cx) (e : Expr) : TT := fun σ H Q => ∀ (whole : Sem Value) (pins : List (Addr × Obj)) (s : Shared), Inv X pins σ H s → wpAny (model X.prog X.w) X.A (isTrue e X.env whole) (TP X pins σ Q) X.xe s
theorem pw_w (e : Expr) : PW X e (EvW X e) := ⟨fun wh pins s _ _ _ I h => h wh pins s I⟩
theorem ofPW {e : Expr} {t : TT} {σ : St} {H : Hp} {Q : Bool → Hp → Prop} (h : PW X e t) (w : t σ H Q) : EvW X e σ H Q := fun wh pins s I => h.run wh pins s σ H Q I w
def SndW (X : Cx) (e : Expr) (m : S → Res Bool) : Prop := ∀ s b s', m s = .ok b s' → ∀ (F : Fx) (I H : Hp) (σ : St) (Q : Bool → Hp → Prop), Rel X.K F I H σ s →
  (∀ I' H', Same I I' → Rel X.K F I' H' σ s' → Q b H') → EvW X e σ H Q
theorem sndT_W {e : Expr} {m : S → Res Bool} (h : SndW X e m) : SndT X e m := fun s b s' hm F I H σ Q Rl q pins sh inv => h s b s' hm F I H σ Q Rl q _ pins sh inv
theorem snd_andT (sn : ∀ e, SndT X e (R.t e)) {pos : Pos} : ∀ es : List Expr, SndW X (.BoolOp .And es pos) (andT R es)
  | [] => fun s d s' hm => by cases hm
  | [a] => fun s d s' hm F I H σ Q Rl q => ofPW (pw_and1 (pt_w a)) (sn a s d s' hm F I H σ Q Rl q)
  | a :: b :: r => fun s d s' hm F I H σ Q Rl q => by
    obtain ⟨c, s1, h1, h4⟩ := bnd_ok (show bnd (R.t a) (fun c => if c then andT R (b :: r) else ret false) s = .ok d s' from hm)
    refine ofPW (pw_and (pt_w a) (pw_w (.BoolOp .And (b :: r) pos))) (sn a s _ _ h1 F I H σ _ Rl fun I1 H1 i1 R1 => ?_)
    cases c with
    | true =>
      rw [if_pos rfl] at h4 ⊢
      exact snd_andT sn (b :: r) _ d s' h4 F I1 H1 σ Q R1 fun I2 H2 i2 => q I2 H2 (i1.trans i2)
    | false =>
      rw [if_neg Bool.false_ne_true] at h4 ⊢
      obtain ⟨rfl, rfl⟩ := ret_ok h4
      exact q I1 H1 i1 R1
theorem snd_orT (sn : ∀ e, SndT X e (R.t e)) {pos : Pos} : ∀ es : List Expr, SndW X (.BoolOp .Or es pos) (orT R es)
  | [] => fun s d s' hm => by cases hm
  | [a] => fun s d s' hm F I H σ Q Rl q => ofPW (pw_or1 (pt_w a)) (sn a s d s' hm F I H σ Q Rl q)
  | a :: b :: r => fun s d s' hm F I H σ Q Rl q => by
    obtain ⟨c, s1, h1, h4⟩ := bnd_ok (show bnd (R.t a) (fun c => if c then ret true else orT R (b :: r)) s = .ok d s' from hm)
    refine ofPW (pw_or (pt_w a) (pw_w (.BoolOp .Or (b :: r) pos))) (sn a s _ _ h1 F I H σ _ Rl fun I1 H1 i1 R1 => ?_)
    cases c with
    | false =>
      rw [if_neg Bool.false_ne_true] at h4 ⊢
      exact snd_orT sn (b :: r) _ d s' h4 F I1 H1 σ Q R1 fun I2 H2 i2 => q I2 H2 (i1.trans i2)
    | true =>
      rw [if_pos rfl] at h4 ⊢
      obtain ⟨rfl, rfl⟩ := ret_ok h4
      exact q I1 H1 i1 R1
theorem snd_notT (sn : ∀ e, SndT X e (R.t e)) {a : Expr} {pos : Pos} : SndT X (.UnaryOp .Not a pos) (bnd (R.t a) fun c => ret (!c)) := by
  intro s d s' hm F I H σ Q Rl q
  obtain ⟨c, s1, h1, h2⟩ := bnd_ok hm
  obtain ⟨rfl, rfl⟩ := ret_ok h2
  exact ofPT (pt_not (pt_w a)) (sn a s _ _ h1 F I H σ _ Rl fun I1 H1 i1 R1 => q I1 H1 i1 R1)
theorem snd_ifE (sn : Snd C X R) {c a b : Expr} {pos : Pos} : SndE X (.IfExp c a b pos) (bnd (R.t c) fun k => if k then R.e a else R.e b) := by
  intro s d s' hm F I H σ Q Rl q
  obtain ⟨k, s1, h1, h2⟩ := bnd_ok hm
  refine ofPE (pe_ifExp (pt_w c) (pe_w a) (pe_w b)) (sn.t c s _ _ h1 F I H σ _ Rl fun I1 H1 i1 R1 => ?_)
  cases k with
  | true =>
    rw [if_pos rfl] at h2 ⊢
    exact sn.e a _ d s' h2 F I1 H1 σ Q R1 fun v I2 H2 i2 => q v I2 H2 (i1.trans i2)
  | false =>
    rw [if_neg Bool.false_ne_true] at h2 ⊢
    exact sn.e b _ d s' h2 F I1 H1 σ Q R1 fun v I2 H2 i2 => q v I2 H2 (i1.trans i2)
/-- the truth of data -/
theorem truth_of {K : PySem.W.Frag} {I H : Hp} (e : Same I H) {v : V} {d : D} {b : Bool} (h : Dt K I v d) (t : truthD d = some b) : TruV K v H b := by
  cases h with
  | non => cases t; rfl
  | bl c => cases t; rfl
  | int i => cases t; rfl
  | str x =>
    have t' : (if x.length ≤ sizeLine then some ((x.length : Int) != 0) else none) = some b := t
    by_cases hz : x.length ≤ sizeLine
    · rw [if_pos hz] at t'
      cases t'
      exact ⟨hz, rfl⟩
    · rw [if_neg hz] at t'
      cases t'
  | lst h1 h2 =>
    cases t
    refine .inl ⟨_, e.seq h1, ?_⟩
    cases h2 <;> rfl
  | tup h1 h2 =>
    cases t
    refine .inr (.inl ⟨_, sqT_mono e h1, ?_⟩)
    cases h2 <;> rfl
theorem snd_truth (sn : ∀ e, SndE X e (R.e e)) {e : Expr} (he : ∀ whole, isTrue e X.env whole = (do let v ← whole; standAt e.pos; holding [v] (truthy v))) : SndT X e (bnd (R.e e) fun d => lift (truthD d)) := by
  intro s b s' hm F I H σ Q Rl q
  obtain ⟨d, s1, h1, h2⟩ := bnd_ok hm
  obtain ⟨e2, rfl⟩ := lift_ok h2
  exact ofPT (pt_truth (pe_w e) he) (sn e s _ _ h1 F I H σ _ Rl fun v I1 H1 i1 R1 d1 => ⟨b, truth_of R1.le d1 e2, q I1 H1 i1 R1⟩)

/-! ### subscripts -/
theorem atI_of {K : PySem.W.Frag} {I : Hp} {vs : List V} {ds : List D} (h : DtAll K I vs ds) {i : Int} {d : D} (e : atI ds i = some d) : ∃ v, atI vs i = some v ∧ Dt K I v d := by
  unfold atI at e ⊢
  rw [dps_len h]
  cases q : ixN ds.length i with
  | none => rw [q] at e; cases e
  | some j =>
    rw [q] at e
    exact dps_get h e
theorem plain_of {i : Expr} (h : notSlice i = true) : PlainIx i := fun o j => by
  cases i <;> first | rfl | cases h
/-- a rule for a subscript of data -/
theorem ix_of {c kd d : D} (h : ixD c kd = some d) : ∃ r, IxR X r ∧ ∀ (I H : Hp) (v u : V) (Q : VK), Same I H → Pk X.K I H v c → Dt X.K I u kd → (∀ w, Dt X.K I w d → Q w H) → r v u H Q := by
  unfold ixD at h
  split at h
  · rename_i xs i
    refine ⟨_, ix_list, fun I H v u Q e p d2 q => ?_⟩
    obtain ⟨a, vs, rfl, h1, h2⟩ := pk_list e p
    cases d2
    obtain ⟨w, h3, h4⟩ := atI_of h2 h
    exact ⟨a, vs, i, w, rfl, rfl, h1, h3, q w h4⟩
  · rename_i xs i
    refine ⟨_, ix_tup, fun I H v u Q e p d2 q => ?_⟩
    obtain ⟨a, vs, rfl, h1, h2⟩ := pk_tup e p
    cases d2
    obtain ⟨w, h3, h4⟩ := atI_of h2 h
    exact ⟨a, vs, i, w, rfl, rfl, h1, h3, q w h4⟩
  · rename_i x i
    split at h
    · rename_i hz
      cases q2 : atI x.cps.toList i with
      | none => rw [q2] at h; cases h
      | some c =>
        rw [q2] at h
        cases h
        refine ⟨_, ix_str, fun I H v u Q e p d2 q => ?_⟩
        cases pk_dat p (fun _ z => by cases z)
        cases d2
        exact ⟨x, i, c, rfl, rfl, hz, q2, q _ (.str _)⟩
    · cases h
  · cases h
theorem snd_ix (sn : ∀ e, SndE X e (R.e e)) {a i : Expr} {pos : Pos} (hs : notSlice i = true) : SndE X (.Subscript a i pos) (bnd (R.e a) fun c => bnd (R.e i) fun k => lift (ixD c k)) := by
  intro s d s' hm F I H σ Q Rl q
  obtain ⟨c, s1, h1, h2⟩ := bnd_ok hm
  obtain ⟨kd, s2, h3, h4⟩ := bnd_ok h2
  obtain ⟨e, rfl⟩ := lift_ok h4
  obtain ⟨r, hr, hq⟩ := ix_of (X := X) e
  refine ofPE (pe_ix hr (pe_w a) (pe_w i) (plain_of hs)) (sn a s _ _ h1 F I H σ _ Rl fun v I1 H1 i1 R1 d1 => ?_)
  refine sn i s1 _ _ h3 F I1 H1 σ _ R1 fun u I2 H2 i2 R2 d2 => ?_
  exact hq I2 H2 v u Q R2.le (.dat (dp_mono i2 c d1)) d2 fun w dw => q w I2 H2 (i1.trans i2) R2 dw
theorem snd_ixN (cx : CtxOk k C X) (sn : ∀ e, SndE X e (R.e e)) {x : Str} {p : Pos} {j : Nat} {i : Expr} {pos : Pos} (hj : slotOf C x = some j) (hs : notSlice i = true) :
    SndE X (.Subscript (.Name x p) i pos) (bnd (pkS j) fun _ => bnd (R.e i) fun k => bnd (pkS j) fun c => lift (ixD c k)) := by
  intro s d s' hm F I H σ Q Rl q
  obtain ⟨c0, s0, h0, hm2⟩ := bnd_ok hm
  obtain ⟨e0, v, hv, _⟩ := pkS_at h0 Rl
  subst e0
  obtain ⟨kd, s1, h1, h2⟩ := bnd_ok hm2
  obtain ⟨c, s2, h3, h4⟩ := bnd_ok h2
  obtain ⟨e, rfl⟩ := lift_ok h4
  obtain ⟨r, hr, hq⟩ := ix_of (X := X) e
  refine ofPE (pe_ix hr (pe_slot cx hj) (pe_w i) (plain_of hs)) ⟨v, hv, sn i s0 _ _ h1 F I H σ _ Rl fun u I1 H1 i1 R1 d1 => ?_⟩
  obtain ⟨es, v', hv', pv⟩ := pkS_at h3 R1
  subst es
  rw [hv] at hv'
  cases hv'
  exact hq I1 H1 v u Q R1.le pv d1 fun w dw => q w I1 H1 i1 R1 dw
/-- slices -/
theorem cut_of {K : PySem.W.Frag} {I : Hp} {vs : List V} {ds : List D} (h : DtAll K I vs ds) (lo hi : Option Int) : DtAll K I (cutV vs lo hi) (cutD ds lo hi) := by
  unfold cutV cutD
  rw [dps_len h]
  exact dps_take _ (dps_drop _ h)
theorem snd_part (sn : ∀ e, SndE X e (R.e e)) (o : Option Expr) : ∃ t, PO X o t ∧ ∀ s l s', partE R o s = .ok l s' → ∀ (F : Fx) (I H : Hp) (σ : St) (Q : Option Int → Hp → Prop), Rel X.K F I H σ s →
    (∀ I' H', Same I I' → Rel X.K F I' H' σ s' → Q l H') → t σ H Q := by
  cases o with
  | none =>
    refine ⟨_, po_none, fun s l s' hm F I H σ Q Rl q => ?_⟩
    obtain ⟨rfl, rfl⟩ := ret_ok (show ret none s = .ok l s' from hm)
    exact q I H (Same.refl I) Rl
  | some e =>
    refine ⟨_, po_some (pe_w e), fun s l s' hm F I H σ Q Rl q => ?_⟩
    obtain ⟨d, s1, h1, h2⟩ := bnd_ok (show bnd (R.e e) (fun d => lift ((intD d).map some)) s = .ok l s' from hm)
    obtain ⟨e2, rfl⟩ := lift_ok h2
    refine sn e s _ _ h1 F I H σ _ Rl fun v I1 H1 i1 R1 d1 => ?_
    cases d1 <;> try (cases e2; done)
    cases e2
    exact ⟨_, rfl, q I1 H1 i1 R1⟩
theorem sl_of {c d : D} {l h : Option Int} (e : sliceD c l h = some d) : ∃ r, SlR X r ∧ ∀ (F : Fx) (I H : Hp) (σ : St) (s : S) (v : V) (Q : VK), Rel X.K F I H σ s → Pk X.K I H v c → (∀ w I' H', Same I I' → Rel X.K F I' H' σ s → Dt X.K I' w d → Q w H') → r v l h H Q := by
  unfold sliceD at e
  split at e
  · rename_i xs
    cases e
    refine ⟨_, sl_list, fun F I H σ s v Q Rl p q => ?_⟩
    obtain ⟨a, vs, rfl, h1, h2⟩ := pk_list Rl.le p
    refine ⟨a, vs, rfl, h1, fun t ht => ?_⟩
    obtain ⟨a1, a2, a3⟩ := lay_lst Rl ht (cut_of h2 l h)
    exact q _ _ _ a1 a2 a3
  · rename_i xs
    cases e
    refine ⟨_, sl_tupA, fun F I H σ s v Q Rl p q => ?_⟩
    obtain ⟨a, vs, rfl, h1, h2⟩ := pk_tup Rl.le p
    refine ⟨a, vs, rfl, h1, fun ew => ?_, fun _ t ht => ?_⟩
    · have hl := dps_len h2
      have ec : cutD xs l h = xs := by
        unfold cutD
        rw [← hl, ew.1, ew.2, List.drop_zero, Nat.sub_zero, hl, List.take_length]
      rw [ec] at q
      cases p with
      | dat p => exact q _ I H (Same.refl I) Rl p
    · obtain ⟨a1, a2, a3⟩ := lay_tup Rl ht (cut_of h2 l h)
      exact q _ _ _ a1 a2 a3
  · rename_i z
    split at e <;> cases e
    rename_i hz
    refine ⟨_, sl_str, fun F I H σ s v Q Rl p q => ?_⟩
    cases pk_dat p (fun _ z => by cases z)
    exact ⟨z, rfl, hz, q _ I H (Same.refl I) Rl (.str _)⟩
  · cases e
theorem snd_slice (cx : CtxOk k C X) (sn : Snd C X R) {a : Expr} {lo hi : Option Expr} {p2 pos : Pos} :
    SndE X (.Subscript a (.Slice lo hi none p2) pos) (bnd (R.e a) fun c => bnd (partE R lo) fun l => bnd (partE R hi) fun h => lift (sliceD c l h)) := by
  intro s d s' hm F I H σ Q Rl q
  obtain ⟨c, s1, h1, h2⟩ := bnd_ok hm
  obtain ⟨l, s2, h3, h4⟩ := bnd_ok h2
  obtain ⟨h, s3, h5, h6⟩ := bnd_ok h4
  obtain ⟨e, rfl⟩ := lift_ok h6
  obtain ⟨r, hr, hq⟩ := sl_of (X := X) e
  obtain ⟨tl, pl, ql⟩ := snd_part sn.e lo
  obtain ⟨th, ph, qh⟩ := snd_part sn.e hi
  refine ofPE (pe_slice hr (pe_w a) pl ph) (sn.e a s _ _ h1 F I H σ _ Rl fun v I1 H1 i1 R1 d1 => ?_)
  refine ql s1 l s2 h3 F I1 H1 σ _ R1 fun I2 H2 i2 R2 => ?_
  refine qh s2 h _ h5 F I2 H2 σ _ R2 fun I3 H3 i3 R3 => ?_
  exact hq F I3 H3 σ s' v Q R3 (.dat (dp_mono (i2.trans i3) c d1)) fun w I4 H4 i4 R4 d4 => q w I4 H4 (i1.trans (i2.trans (i3.trans i4))) R4 d4
theorem snd_sliceN (cx : CtxOk k C X) (sn : Snd C X R) {x : Str} {p : Pos} {j : Nat} {lo hi : Option Expr} {p2 pos : Pos} (hj : slotOf C x = some j) :
    SndE X (.Subscript (.Name x p) (.Slice lo hi none p2) pos) (bnd (pkS j) fun _ => bnd (partE R lo) fun l => bnd (partE R hi) fun h => bnd (pkS j) fun c => lift (sliceD c l h)) := by
  intro s d s' hm F I H σ Q Rl q
  obtain ⟨c0, s0, h0, hm2⟩ := bnd_ok hm
  obtain ⟨e0, v, hv, _⟩ := pkS_at h0 Rl
  subst e0
  obtain ⟨l, s2, h3, h4⟩ := bnd_ok hm2
  obtain ⟨h, s3, h5, h6⟩ := bnd_ok h4
  obtain ⟨c, s4, h7, h8⟩ := bnd_ok h6
  obtain ⟨e, rfl⟩ := lift_ok h8
  obtain ⟨r, hr, hq⟩ := sl_of (X := X) e
  obtain ⟨tl, pl, ql⟩ := snd_part sn.e lo
  obtain ⟨th, ph, qh⟩ := snd_part sn.e hi
  refine ofPE (pe_slice hr (pe_slot cx hj) pl ph) ⟨v, hv, ?_⟩
  refine ql s0 l s2 h3 F I H σ _ Rl fun I2 H2 i2 R2 => ?_
  refine qh s2 h _ h5 F I2 H2 σ _ R2 fun I3 H3 i3 R3 => ?_
  obtain ⟨es, v', hv', pv⟩ := pkS_at h7 R3
  subst es
  rw [hv] at hv'
  cases hv'
  exact hq F I3 H3 σ _ v Q R3 pv fun w I4 H4 i4 R4 d4 => q w I4 H4 (i2.trans (i3.trans i4)) R4 d4
end
end Bw
end

set_option Elab.async false
set_option linter.all false
set_option maxRecDepth 100000
set_option maxHeartbeats 4000000
noncomputable section
namespace Bw
open PySem L2 PySem.Spec

/-! ### built-ins -/
section
variable {X : Cx} {k : Nat} {C : Cf} {R : EvK}
theorem len_of {K : PySem.W.Frag} {I H : Hp} (e : Same I H) {v : V} {c d : D} (h : Pk K I H v c) (t : lenD c = some d) : ∃ m : Nat, LenV K v H m ∧ d = .int m := by
  unfold lenD at t
  split at t
  · rename_i xs
    cases t
    obtain ⟨a, vs, rfl, h1, h2⟩ := pk_list e h
    exact ⟨_, .inl ⟨vs, h1, rfl⟩, by rw [dps_len h2]⟩
  · rename_i xs
    cases t
    obtain ⟨a, vs, rfl, h1, h2⟩ := pk_tup e h
    exact ⟨_, .inr ⟨vs, h1, rfl⟩, by rw [dps_len h2]⟩
  · rename_i x
    split at t <;> cases t
    rename_i hz
    cases pk_dat h (fun _ z => by cases z)
    exact ⟨_, ⟨hz, rfl⟩, rfl⟩
  · cases t
/-- one argument -/
theorem pa_1 {a : Expr} (h : noStar a = true) : PA X [a] (tCons (EvE X a) tNil) := pa_cons (pe_w a) pa_nil (star_cons h [] X.env)
theorem star1 {a : Expr} (h : noStar a = true) : starEach [a] X.env = (false, eval a X.env) :: starEach [] X.env := star_cons h [] X.env
theorem snd_len (cx : CtxOk k C X) (sn : Snd C X R) {a : Expr} {p q : Pos} (hb : isBlt C "len" = true) (hs : noStar a = true) : SndE X (.Call (.Name "len" p) [a] [] q) (bnd (pkE C R a) fun c => lift (lenD c)) := by
  intro s d s' hm F I H σ Q Rl qq
  obtain ⟨c, s1, h1, h2⟩ := bnd_ok hm
  obtain ⟨e, rfl⟩ := lift_ok h2
  obtain ⟨g1, g2, g3, g4⟩ := isBlt_ok cx hb
  refine ofPE (pe_callB call_len g1 g3 PySem.boot_len (pa_1 hs) g4 g2 (star1 hs) rfl) (snd_pkE cx sn a s _ _ h1 F I H σ _ Rl fun v I1 H1 i1 R1 d1 => ?_)
  obtain ⟨m, h3, rfl⟩ := len_of R1.le d1 e
  exact ⟨v, m, rfl, h3, qq _ I1 H1 i1 R1 (.int _)⟩
theorem bools_of {K : PySem.W.Frag} {I : Hp} : ∀ {vs : List V} {ds : List D} {bs : List Bool}, DtAll K I vs ds → boolsD ds = some bs → vs = bs.map V.bl
  | _, _, bs, .nil, e => by cases (show some [] = some bs from e); rfl
  | _, _, bs, .cons (d := d) (ds := ds) h t, e => by
    cases h with
    | bl b =>
      have e' : (boolsD ds).map (b :: ·) = some bs := e
      cases q : boolsD ds with
      | none => rw [q] at e'; cases e'
      | some bs' =>
        rw [q] at e'
        cases e'
        rw [bools_of t q]
        rfl
    | _ => cases e
theorem snd_all (cx : CtxOk k C X) (sn : ∀ e, SndE X e (R.e e)) {a : Expr} {p q : Pos} (hb : isBlt C "all" = true) (hs : noStar a = true) :
    SndE X (.Call (.Name "all" p) [a] [] q) (bnd (R.e a) fun d => lift (match d with | .list ds => (boolsD ds).map fun bs => .bool (bs.all id) | _ => none)) := by
  intro s d s' hm F I H σ Q Rl qq
  obtain ⟨c, s1, h1, h2⟩ := bnd_ok hm
  obtain ⟨e, rfl⟩ := lift_ok h2
  obtain ⟨g1, g2, g3, g4⟩ := isBlt_ok cx hb
  refine ofPE (pe_callB (cr_all cx.calm) g1 g3 (by decide +kernel) (pa_1 hs) g4 g2 (star1 hs) rfl) (sn a s _ _ h1 F I H σ _ Rl fun v I1 H1 i1 R1 d1 => ?_)
  cases d1 <;> try (cases e; done)
  rename_i a xs ds h3 h4
  cases q : boolsD ds with
  | none => simp only [q] at e; cases e
  | some bs =>
    simp only [q] at e
    cases e
    have ev := bools_of h4 q
    subst ev
    exact ⟨a, bs, rfl, R1.le.seq h3, qq _ I1 H1 i1 R1 (.bl _)⟩
theorem snd_abs (cx : CtxOk k C X) (sn : ∀ e, SndE X e (R.e e)) {a : Expr} {p q : Pos} (hb : isBlt C "abs" = true) (hs : noStar a = true) : SndE X (.Call (.Name "abs" p) [a] [] q) (bnd (R.e a) fun d => lift ((intD d).map fun i => .int (absI i))) := by
  intro s d s' hm F I H σ Q Rl qq
  obtain ⟨c, s1, h1, h2⟩ := bnd_ok hm
  obtain ⟨e, rfl⟩ := lift_ok h2
  obtain ⟨g1, g2, g3, g4⟩ := isBlt_ok cx hb
  refine ofPE (pe_callB call_abs g1 g3 (by decide +kernel) (pa_1 hs) g4 g2 (star1 hs) rfl) (sn a s _ _ h1 F I H σ _ Rl fun v I1 H1 i1 R1 d1 => ?_)
  cases d1 <;> try (cases e; done)
  cases e
  exact ⟨_, rfl, qq _ I1 H1 i1 R1 (.int _)⟩
def intOf : D → Option D
  | .int i => some (.int i)
  | .bool k => some (.int (if k then 1 else 0))
  | _ => none
theorem snd_int (cx : CtxOk k C X) (sn : ∀ e, SndE X e (R.e e)) {a : Expr} {p q : Pos} (hb : isBlt C "int" = true) (hs : noStar a = true) :
    SndE X (.Call (.Name "int" p) [a] [] q) (bnd (R.e a) fun d => lift (match d with | .int i => some (.int i) | .bool k => some (.int (if k then 1 else 0)) | _ => none)) := by
  intro s d s' hm F I H σ Q Rl qq
  obtain ⟨c, s1, h1, h2⟩ := bnd_ok hm
  obtain ⟨e, rfl⟩ := lift_ok h2
  obtain ⟨g1, g2, g3, g4⟩ := isBlt_ok cx hb
  refine ofPE (pe_callTy call_int1 g1 g3 (by decide +kernel) (pa_1 hs) g4 g2 (star1 hs) rfl) (sn a s _ _ h1 F I H σ _ Rl fun v I1 H1 i1 R1 d1 => ?_)
  cases d1 <;> try (cases e; done)
  · cases e
    exact .inr ⟨_, rfl, qq _ I1 H1 i1 R1 (.int _)⟩
  · cases e
    exact .inl ⟨_, rfl, qq _ I1 H1 i1 R1 (.int _)⟩
theorem pa_2 {a b : Expr} (h : noStar a = true) (h' : noStar b = true) : PA X [a, b] (tCons (EvE X a) (tCons (EvE X b) tNil)) := pa_cons (pe_w a) (pa_1 h') (star_cons h [b] X.env)
theorem snd_minmax (cx : CtxOk k C X) (sn : ∀ e, SndE X e (R.e e)) {a b : Expr} {p q : Pos} {x : Str} {id : String} {g : Int → Int → Int} (hb : isBlt C x = true) (hv : bootBuiltins x = some (.builtin id))
    (hr : CallR X (.builtin id) (fun xs H Q => ∃ i j, xs = [.int i, .int j] ∧ Q (.int (g i j)) H)) (hs : noStar a = true) (hs2 : noStar b = true) :
    SndE X (.Call (.Name x p) [a, b] [] q) (bnd (R.e a) fun d => bnd (R.e b) fun d' => lift ((intD d).bind fun i => (intD d').map fun j => .int (g i j))) := by
  intro s d s' hm F I H σ Q Rl qq
  obtain ⟨c, s1, h1, h2⟩ := bnd_ok hm
  obtain ⟨c', s2, h3, h4⟩ := bnd_ok h2
  obtain ⟨e, rfl⟩ := lift_ok h4
  obtain ⟨g1, g2, g3, g4⟩ := isBlt_ok cx hb
  refine ofPE (pe_callB hr g1 g3 hv (pa_2 hs hs2) g4 g2 (star_cons hs [b] X.env) (noStars_any (by rw [List.all_cons, hs2]; rfl))) (sn a s _ _ h1 F I H σ _ Rl fun v I1 H1 i1 R1 d1 => ?_)
  refine sn b s1 _ _ h3 F I1 H1 σ _ R1 fun u I2 H2 i2 R2 d2 => ?_
  cases c <;> try (cases e; done)
  cases c' <;> try (cases e; done)
  cases e
  cases d1
  cases d2
  exact ⟨_, _, rfl, qq _ I2 H2 (i1.trans i2) R2 (.int _)⟩

/-! ### isinstance -/
theorem ty_of {K : PySem.W.Frag} {I H : Hp} (e : Same I H) {v : V} {d : D} (h : Pk K I H v d) : TyX K H v (.type (tyD d)) := by
  cases h with
  | lst h1 h2 => exact .base (.lst h1)
  | dat h =>
    cases h with
    | non => exact .base .non
    | bl b => exact .base (.bl b)
    | int i => exact .base (.int i)
    | str x => exact .base (.str x)
    | lst h1 h2 =>
      rcases e.seq h1 with (q | ⟨o, q⟩) | ⟨o, its, m, q1, q2, _⟩
      · exact .base (.lst q)
      · exact .base (.frz q)
      · exact .kList q1 q2
    | tup h1 h2 =>
      rcases sqT_mono e h1 with (q | ⟨o, q⟩) | ⟨o, its, m, q1, q2, _⟩
      · exact .base (.tup q)
      · exact .fTuple q
      · exact .kTuple q1 q2
theorem clsOf_boot {x : Str} {c : String} (h : clsOf x = some c) : bootBuiltins x = some (.type c) ∧ (["int", "bool", "str", "list", "tuple", "dict"] : List String).contains c = true := by
  unfold clsOf at h
  split at h
  · rename_i e; cases h; subst e; exact ⟨by decide +kernel, by decide +kernel⟩
  split at h
  · rename_i e; cases h; subst e; exact ⟨by decide +kernel, by decide +kernel⟩
  split at h
  · rename_i e; cases h; subst e; exact ⟨by decide +kernel, by decide +kernel⟩
  split at h
  · rename_i e; cases h; subst e; exact ⟨by decide +kernel, by decide +kernel⟩
  split at h
  · rename_i e; cases h; subst e; exact ⟨by decide +kernel, by decide +kernel⟩
  split at h
  · rename_i e; cases h; subst e; exact ⟨by decide +kernel, by decide +kernel⟩
  · cases h
theorem kit_all : (["NoneType", "bool", "int", "str", "list", "tuple", "dict"] : List String).all (fun t => (["int", "bool", "str", "list", "tuple", "dict"] : List String).all fun c => kitB t c == some (isiD t c)) = true := by decide +kernel
theorem tyD_mem (d : D) : (["NoneType", "bool", "int", "str", "list", "tuple", "dict"] : List String).contains (tyD d) = true := by
  cases d <;> rfl
theorem kit_of' {K : PySem.W.Frag} (d : D) {c : String} (h : (["int", "bool", "str", "list", "tuple", "dict"] : List String).contains c = true) : PySem.W.kitOne K (.type (tyD d)) (.type c) = some (isiD (tyD d) c) := by
  have h1 := List.all_eq_true.mp (List.all_eq_true.mp kit_all (tyD d) (List.contains_iff_mem.mp (tyD_mem d))) c (List.contains_iff_mem.mp h)
  exact kit_ty (eq_of_beq h1)
theorem isiOf_ok (cx : CtxOk k C X) {d : D} {T : Expr} {b : Bool} (h : isiOf C (tyD d) T = some b) : ∃ c, PE X T (tC (.ty c)) ∧ PySem.W.kitOne X.K (.type (tyD d)) (.type c) = some b ∧ noStar T = true ∧ isiD (tyD d) c = b := by
  unfold isiOf at h
  split at h
  · rename_i x p
    by_cases hb : isBlt C x = true
    · rw [if_pos hb] at h
      cases e : clsOf x with
      | none => rw [e] at h; cases h
      | some c =>
        rw [e] at h
        have h' : isiD (tyD d) c = b := Option.some.inj h
        obtain ⟨g1, g2, g3, g4⟩ := isBlt_ok cx hb
        obtain ⟨b1, b2⟩ := clsOf_boot e
        exact ⟨c, pe_bltn g1 g3 b1 rfl g4 g2, by rw [kit_of' d b2, h'], rfl, h'⟩
    · rw [if_neg hb] at h; cases h
  · cases h
theorem snd_isi1 (cx : CtxOk k C X) (sn : Snd C X R) {a T : Expr} {p q : Pos} (hb : isBlt C "isinstance" = true) (hs : noStar a = true) {s s' : S} {c : D} (h1 : pkE C R a s = .ok c s') {b : Bool} (h : isiOf C (tyD c) T = some b) :
    ∀ (F : Fx) (I H : Hp) (σ : St) (Q : VK), Rel X.K F I H σ s → (∀ v I' H', Same I I' → Rel X.K F I' H' σ s' → Dt X.K I' v (.bool b) → Q v H') → EvE X (.Call (.Name "isinstance" p) [a, T] [] q) σ H Q := by
  intro F I H σ Q Rl qq
  obtain ⟨cn, pT, kT, sT, _⟩ := isiOf_ok cx h
  obtain ⟨g1, g2, g3, g4⟩ := isBlt_ok cx hb
  refine ofPE (pe_callB call_isi g1 g3 (by decide +kernel) (pa_cons (pe_w a) (pa_cons pT pa_nil (star_cons sT [] X.env)) (star_cons hs [T] X.env)) g4 g2 (star_cons hs [T] X.env) (noStars_any (by rw [List.all_cons, sT]; rfl)))
    (snd_pkE cx sn a s _ _ h1 F I H σ _ Rl fun v I1 H1 i1 R1 d1 => ?_)
  exact ⟨v, .ty cn, _, _, b, rfl, .ty cn, ty_of R1.le d1, kT, qq _ I1 H1 i1 R1 (.bl b)⟩
theorem isiAny_ok (cx : CtxOk k C X) {d : D} : ∀ {es : List Expr} {b : Bool}, isiAny C (tyD d) es = some b → es.all noStar = true ∧ ∃ (cs : List String) (t : TA), cs.length = es.length ∧ PA X es t ∧ (∀ σ H Q, Q (cs.map V.ty) H → t σ H Q) ∧ PySem.W.kitAny X.K (.type (tyD d)) (cs.map Value.type) = some b
  | [], b, h => by
    cases (show some false = some b from h)
    exact ⟨rfl, [], _, rfl, pa_nil, fun σ H Q q => q, rfl⟩
  | e :: es, b, h => by
    unfold isiAny at h
    cases h1 : isiOf C (tyD d) e with
    | none => rw [h1] at h; cases h
    | some b1 =>
      cases h2 : isiAny C (tyD d) es with
      | none => rw [h1, h2] at h; cases h
      | some b2 =>
        rw [h1, h2] at h
        have hb : (b1 || b2) = b := Option.some.inj h
        obtain ⟨c, pT, kT, sT, _⟩ := isiOf_ok cx h1
        obtain ⟨s2, cs, t, hl, pt, ht, hk⟩ := isiAny_ok cx h2
        refine ⟨by rw [List.all_cons, sT, s2]; rfl, c :: cs, _, by rw [List.length_cons, List.length_cons, hl], pa_cons pT pt (star_cons sT es X.env), fun σ H Q q => ht σ H _ q, ?_⟩
        refine kitAny_cons kT (fun e1 => ?_) (fun e1 => ?_)
        · rw [e1, Bool.false_or] at hb
          rw [← hb]; exact hk
        · rw [e1, Bool.true_or] at hb
          exact hb.symm
theorem paired_cls : ∀ cs : List String, Paired ClsV (cs.map V.ty) (cs.map Value.type)
  | [] => .nil
  | c :: cs => .cons (.ty c) (paired_cls cs)
theorem pk_upd {K : PySem.W.Frag} {I H : Hp} {v : V} {d : D} (h : Pk K I H v d) {p : Addr} {o : HO} (hp : H p = none) : Pk K I (upd H p o) v d := by
  cases h with
  | dat h => exact .dat h
  | lst h1 h2 => exact .lst (by rw [upd_ne (ne_of_none h1 hp)]; exact h1) h2
theorem snd_isi (cx : CtxOk k C X) (sn : Snd C X R) {a T : Expr} {p q : Pos} (hb : isBlt C "isinstance" = true) (hs : noStar a = true) :
    SndE X (.Call (.Name "isinstance" p) [a, T] [] q) (bnd (pkE C R a) fun d => lift ((isiE C d T).map .bool)) := by
  intro s d s' hm F I H σ Q Rl qq
  obtain ⟨c, s1, h1, h2⟩ := bnd_ok hm
  obtain ⟨e, rfl⟩ := lift_ok h2
  cases eb : isiE C c T with
  | none => rw [eb] at e; cases e
  | some b =>
    rw [eb] at e
    cases e
    have one : isiOf C (tyD c) T = some b → EvE X (.Call (.Name "isinstance" p) [a, T] [] q) σ H Q := fun h => snd_isi1 cx sn hb hs h1 h F I H σ Q Rl qq
    unfold isiE at eb
    split at eb
    · rename_i es kk tp
      split at eb
      · rename_i hl
        obtain ⟨s2, cs, t, hcl, pt, ht, hk⟩ := isiAny_ok cx eb
        obtain ⟨g1, g2, g3, g4⟩ := isBlt_ok cx hb
        refine ofPE (pe_callB call_isiT g1 g3 (by decide +kernel) (pa_cons (pe_w a) (pa_cons (pe_tup pt) pa_nil (star_cons rfl [] X.env)) (star_cons hs _ X.env)) g4 g2 (star_cons hs _ X.env) rfl)
          (snd_pkE cx sn a s _ _ h1 F I H σ _ Rl fun v I1 H1 i1 R1 d1 => ?_)
        refine ht σ H1 _ ⟨?_, fun tp htp => ?_⟩
        · rw [List.length_map, hcl]
          exact Nat.le_trans hl (by decide)
        · refine ⟨v, tp, cs.map V.ty, _, cs.map Value.type, b, rfl, upd_same, paired_cls cs, ty_of ((R1.layO htp).le) (pk_upd d1 htp), hk, ?_⟩
          exact qq _ I1 _ i1 (R1.layO htp) (.bl b)
      · cases eb
    · exact one eb

/-! ### all of them -/
theorem snd_blt (cx : CtxOk k C X) (sn : Snd C X R) {x : Str} {args : List Expr} {p q : Pos} (hb : isBlt C x = true) (hs : args.all noStar = true) : SndE X (.Call (.Name x p) args [] q) (bltE C R x args) := by
  have one : ∀ {a : Expr}, args = [a] → noStar a = true := fun e => by subst e; simpa using hs
  have two : ∀ {a b : Expr}, args = [a, b] → noStar a = true ∧ noStar b = true := fun e => by subst e; simpa using hs
  intro s d s' hm
  unfold bltE at hm
  by_cases e : x = "len"
  · subst e
    rw [if_pos rfl] at hm
    match args, hm, @one with
    | [a], hm, one => exact snd_len cx sn hb (one rfl) s d s' hm
    | [], hm, _ => cases hm
    | _ :: _ :: _, hm, _ => cases hm
  rw [if_neg e] at hm
  clear e
  by_cases e : x = "isinstance"
  · subst e
    rw [if_pos rfl] at hm
    match args, hm, @two with
    | [a, T], hm, two => exact snd_isi cx sn hb (two rfl).1 s d s' hm
    | [], hm, _ => cases hm
    | [_], hm, _ => cases hm
    | _ :: _ :: _ :: _, hm, _ => cases hm
  rw [if_neg e] at hm
  clear e
  by_cases e : x = "all"
  · subst e
    rw [if_pos rfl] at hm
    match args, hm, @one with
    | [a], hm, one => exact snd_all cx sn.e hb (one rfl) s d s' hm
    | [], hm, _ => cases hm
    | _ :: _ :: _, hm, _ => cases hm
  rw [if_neg e] at hm
  clear e
  by_cases e : x = "abs"
  · subst e
    rw [if_pos rfl] at hm
    match args, hm, @one with
    | [a], hm, one => exact snd_abs cx sn.e hb (one rfl) s d s' hm
    | [], hm, _ => cases hm
    | _ :: _ :: _, hm, _ => cases hm
  rw [if_neg e] at hm
  clear e
  by_cases e : x = "int"
  · subst e
    rw [if_pos rfl] at hm
    match args, hm, @one with
    | [a], hm, one => exact snd_int cx sn.e hb (one rfl) s d s' hm
    | [], hm, _ => cases hm
    | _ :: _ :: _, hm, _ => cases hm
  rw [if_neg e] at hm
  clear e
  by_cases e : x = "min"
  · subst e
    rw [if_pos rfl] at hm
    match args, hm, @two with
    | [a, b], hm, two => exact snd_minmax cx sn.e hb (by decide +kernel) (call_min2 cx.calm) (two rfl).1 (two rfl).2 s d s' hm
    | [], hm, _ => cases hm
    | [_], hm, _ => cases hm
    | _ :: _ :: _ :: _, hm, _ => cases hm
  rw [if_neg e] at hm
  clear e
  by_cases e : x = "max"
  · subst e
    rw [if_pos rfl] at hm
    match args, hm, @two with
    | [a, b], hm, two => exact snd_minmax cx sn.e hb (by decide +kernel) (call_max2 cx.calm) (two rfl).1 (two rfl).2 s d s' hm
    | [], hm, _ => cases hm
    | [_], hm, _ => cases hm
    | _ :: _ :: _ :: _, hm, _ => cases hm
  rw [if_neg e] at hm
  cases hm
end
end Bw
end

set_option Elab.async false
set_option linter.all false
set_option maxRecDepth 100000
set_option maxHeartbeats 4000000
noncomputable section
namespace Bw
open PySem L2 PySem.Spec

/-! ### behind a call -/
section
variable {K : PySem.W.Frag} {F : Fx} {I I' H H' : Hp} {σ : St} {s : S}
theorem Rel.call0 (R : Rel K F I H σ s) (i1 : Same I I') (i2 : Same I' H') (kp : ∀ a o, H a = some o → H' a = some o) (nw : ∀ a o, H a = some o → I a = none → I' a = none) : Rel K F I' H' σ s := by
  refine ⟨i2, R.le0.trans i1, fun a o hb h => kp a o (R.keep a o hb h), fun a o h1 h2 => ?_, fun i d e => ?_, fun i ds e => ?_, R.ownd, R.bor, fun n a e => ?_, R.nd, R.len, R.blen⟩
  · by_cases hb : a ∈ F.bs
    · obtain ⟨_, vs, ds, _, _, h3, h4, _⟩ := R.bsAt hb
      exact nw a _ h4 h3
    · exact nw a o (R.keep a o hb h1) (R.new a o h1 h2)
  · obtain ⟨v, h1, h2⟩ := R.dat i d e
    exact ⟨v, h1, dp_mono i1 d h2⟩
  · obtain ⟨a, vs, h1, h2, h3, h4, h5, h6⟩ := R.own i ds e
    exact ⟨a, vs, h1, h2, nw a _ h5 h3, h4, kp a _ h5, dps_mono i1 ds h6⟩
  · obtain ⟨vs, ds, h1, h2, h3, h4⟩ := R.bs n a e
    exact ⟨vs, ds, h1, nw a _ h3 h2, kp a _ h3, dps_mono i1 ds h4⟩
/-- a list of the def's own was handed in and changed -/
theorem Rel.call1O (R : Rel K F I H σ s) {i : Nat} {ds es : List D} {a : Addr} {ws : List V} (hi : s.g[i]? = some (.own ds)) (ha : σ[i]? = some (some (.ref a))) (i1 : Same I I') (i2 : Same I' H') (kp : ∀ b o, b ≠ a → H b = some o → H' b = some o)
    (nw : ∀ b o, H b = some o → I b = none → I' b = none) (hH : H' a = some (.lst ws)) (hd : DtAll K I' ws es) : Rel K F I' H' σ { s with g := s.g.set i (.own es) } := by
  obtain ⟨a', vs, h1, h2, h3, h4, h5, h6⟩ := R.own i ds hi
  rw [ha] at h1
  cases h1
  refine ⟨i2, R.le0.trans i1, fun b o hb h => kp b o (ne_of_none h h2) (R.keep b o hb h), fun b o k1 k2 => ?_, fun j d e => ?_, fun j fs e => ?_, fun j k b fs gs hjk e1 e2 e3 => ?_, fun j n e => ?_, fun n b e => ?_, R.nd, by simpa using R.len, R.blen⟩
  · by_cases hb : b ∈ F.bs
    · obtain ⟨_, _, _, _, _, k3, k4, _⟩ := R.bsAt hb
      exact nw b _ k4 k3
    · exact nw b o (R.keep b o hb k1) (R.new b o k1 k2)
  · rcases gset e with ⟨rfl, e'⟩ | ⟨hne, e⟩
    · cases e'
    · obtain ⟨v, k1, k2⟩ := R.dat j d e
      exact ⟨v, k1, dp_mono i1 d k2⟩
  · rcases gset e with ⟨rfl, e'⟩ | ⟨hne, e⟩
    · cases e'
      exact ⟨a, ws, ha, h2, nw a _ h5 h3, h4, hH, hd⟩
    · obtain ⟨b, us, k1, k2, k3, k4, k5, k6⟩ := R.own j fs e
      have hba : b ≠ a := fun z => R.ownd i j a ds fs hne hi e ha (by rw [← z]; exact k1)
      exact ⟨b, us, k1, k2, nw b _ k5 k3, k4, kp b _ hba k5, dps_mono i1 fs k6⟩
  · have g1 : ∃ fs', s.g[j]? = some (.own fs') := by
      rcases gset e1 with ⟨rfl, e'⟩ | ⟨hne, e⟩
      · exact ⟨ds, hi⟩
      · exact ⟨fs, e⟩
    have g2 : ∃ fs', s.g[k]? = some (.own fs') := by
      rcases gset e2 with ⟨rfl, e'⟩ | ⟨hne, e⟩
      · exact ⟨ds, hi⟩
      · exact ⟨gs, e⟩
    obtain ⟨f1, g1⟩ := g1
    obtain ⟨f2, g2⟩ := g2
    exact R.ownd j k b f1 f2 hjk g1 g2 e3
  · rcases gset e with ⟨rfl, e'⟩ | ⟨hne, e⟩
    · cases e'
    · exact R.bor j n e
  · obtain ⟨vs', ds', k1, k2, k3, k4⟩ := R.bs n b e
    have hba : b ≠ a := fun z => h4 (by rw [← z]; exact List.mem_of_getElem? e)
    exact ⟨vs', ds', k1, nw b _ k3 k2, kp b _ hba k3, dps_mono i1 ds' k4⟩
theorem Rel.call1B (R : Rel K F I H σ s) {n : Nat} {es : List D} {a : Addr} {ws : List V} (ha : F.bs[n]? = some a) (i1 : Same I I') (i2 : Same I' H') (kp : ∀ b o, b ≠ a → H b = some o → H' b = some o)
    (nw : ∀ b o, H b = some o → I b = none → I' b = none) (hH : H' a = some (.lst ws)) (hd : DtAll K I' ws es) : Rel K F I' H' σ { s with b := s.b.set n es } := by
  obtain ⟨vs, ds, h1, h2, h3, h4⟩ := R.bs n a ha
  have hm : a ∈ F.bs := List.mem_of_getElem? ha
  refine ⟨i2, R.le0.trans i1, fun b o hb h => kp b o (fun z => hb (by rw [z]; exact hm)) (R.keep b o hb h), fun b o k1 k2 => ?_, fun j d e => ?_, fun j fs e => ?_, R.ownd, R.bor, fun m b e => ?_, R.nd, R.len, by simpa using R.blen⟩
  · by_cases hb : b ∈ F.bs
    · obtain ⟨_, _, _, _, _, k3, k4, _⟩ := R.bsAt hb
      exact nw b _ k4 k3
    · exact nw b o (R.keep b o hb k1) (R.new b o k1 k2)
  · obtain ⟨v, k1, k2⟩ := R.dat j d e
    exact ⟨v, k1, dp_mono i1 d k2⟩
  · obtain ⟨b, us, k1, k2, k3, k4, k5, k6⟩ := R.own j fs e
    have hba : b ≠ a := fun z => k4 (by rw [z]; exact hm)
    exact ⟨b, us, k1, k2, nw b _ k5 k3, k4, kp b _ hba k5, dps_mono i1 fs k6⟩
  · by_cases hmn : n = m
    · subst hmn
      rw [ha] at e; cases e
      have hl : n < s.b.length := (List.getElem?_eq_some_iff.mp h1).1
      exact ⟨ws, es, List.getElem?_set_self hl, nw a _ h3 h2, hH, hd⟩
    · obtain ⟨vs', ds', k1, k2, k3, k4⟩ := R.bs m b e
      have hba : b ≠ a := fun z => by
        subst z
        exact hmn ((List.getElem_inj R.nd).mp ((List.getElem?_eq_some_iff.mp ha).2.trans (List.getElem?_eq_some_iff.mp e).2.symm))
      exact ⟨vs', ds', by rw [List.getElem?_set_ne hmn]; exact k1, nw b _ k3 k2, kp b _ hba k3, dps_mono i1 ds' k4⟩
end

/-! ### own defs -/
section
variable {X : Cx} {k : Nat} {C : Cf} {R : EvK}
def CelAt (F : Fx) (σ : St) : Cell → Addr → Prop
  | .own i, a => σ[i]? = some (some (V.ref a))
  | .bor n, a => F.bs[n]? = some a
inductive ArgsC (K : PySem.W.Frag) (F : Fx) (σ : St) (I : Hp) : List Bool → List V → List D → List Cell → Prop where
  | nil : ArgsC K F σ I [] [] [] []
  | dat {sg : List Bool} {v : V} {vs : List V} {d : D} {ds : List D} {cs : List Cell} : Dt K I v d → ArgsC K F σ I sg vs ds cs → ArgsC K F σ I (false :: sg) (v :: vs) (d :: ds) cs
  | cel {sg : List Bool} {a : Addr} {vs : List V} {ds : List D} {c : Cell} {cs : List Cell} : CelAt F σ c a → ArgsC K F σ I sg vs ds cs → ArgsC K F σ I (true :: sg) (.ref a :: vs) ds (c :: cs)
theorem cellOf_at {K : PySem.W.Frag} {F : Fx} {I H : Hp} {σ : St} {s : S} (Rl : Rel K F I H σ s) {i : Nat} {c : Cell} (h : cellOf i s = some c) : ∃ a, σ[i]? = some (some (V.ref a)) ∧ CelAt F σ c a := by
  unfold cellOf at h
  split at h
  · rename_i ds e
    cases h
    obtain ⟨a, vs, h1, _⟩ := Rl.own i ds e
    exact ⟨a, h1, h1⟩
  · rename_i m e
    cases h
    obtain ⟨a, h1, h2⟩ := Rl.bor i m e
    exact ⟨a, h1, h2⟩
  · cases h
theorem snd_args (cx : CtxOk k C X) (sn : ∀ e, SndE X e (R.e e)) : ∀ (sg : List Bool) (es : List Expr) (s : S) (r : List D × List Cell) (s' : S), evArgs C R sg es s = .ok r s' → es.all noStar = true ∧ sg.length = es.length ∧ ∀ (F : Fx) (I H : Hp) (σ : St) (Q : List V → Hp → Prop), Rel X.K F I H σ s →
    (∀ vs I' H', Same I I' → Rel X.K F I' H' σ s' → ArgsC X.K F σ I' sg vs r.1 r.2 → Q vs H') → EvA X es σ H Q
  | [], [], s, r, s', hm => by
    obtain ⟨rfl, rfl⟩ := ret_ok (show ret ([], []) s = .ok r s' from hm)
    exact ⟨rfl, rfl, fun F I H σ Q Rl q => ofPA pa_nil (q [] I H (Same.refl I) Rl .nil)⟩
  | false :: sg, e :: es, s, r, s', hm => by
    have hm' : (if noStar e then bnd (R.e e) fun d => bnd (evArgs C R sg es) fun r => ret (d :: r.1, r.2) else fail) s = .ok r s' := hm
    by_cases hs : noStar e = true
    · rw [if_pos hs] at hm'
      obtain ⟨d, s1, h1, h2⟩ := bnd_ok hm'
      obtain ⟨r', s2, h3, h4⟩ := bnd_ok h2
      obtain ⟨rfl, rfl⟩ := ret_ok h4
      obtain ⟨hs2, hl, ih⟩ := snd_args cx sn sg es s1 r' _ h3
      refine ⟨by rw [List.all_cons, hs, hs2]; rfl, by rw [List.length_cons, List.length_cons, hl], fun F I H σ Q Rl q => ?_⟩
      refine ofPA (pa_cons (pe_w e) (pa_w es) (star_cons hs es X.env)) ?_
      refine sn e s d s1 h1 F I H σ _ Rl fun v I1 H1 i1 R1 d1 => ?_
      refine ih F I1 H1 σ _ R1 fun vs I2 H2 i2 R2 d2 => ?_
      exact q (v :: vs) I2 H2 (i1.trans i2) R2 (.dat (dp_mono i2 d d1) d2)
    · rw [if_neg hs] at hm'
      cases hm'
  | true :: sg, .Name x p :: es, s, r, s', hm => by
    unfold evArgs at hm
    cases hi : slotOf C x with
    | none => simp only [hi] at hm; cases hm
    | some i =>
      simp only [hi] at hm
      obtain ⟨c, s1, h1, h2⟩ := bnd_ok hm
      obtain ⟨ec, rfl⟩ := lift_ok h1
      obtain ⟨r', s2, h3, h4⟩ := bnd_ok h2
      obtain ⟨rfl, rfl⟩ := ret_ok h4
      obtain ⟨hs2, hl, ih⟩ := snd_args cx sn sg es s1 r' _ h3
      refine ⟨by rw [List.all_cons, hs2]; rfl, by rw [List.length_cons, List.length_cons, hl], fun F I H σ Q Rl q => ?_⟩
      obtain ⟨a, ha, hc⟩ := cellOf_at Rl ec
      refine ofPA (pa_cons (pe_slot cx hi) (pa_w es) (star_cons rfl es X.env)) ⟨_, ha, ?_⟩
      refine ih F I H σ _ Rl fun vs I2 H2 i2 R2 d2 => ?_
      exact q (.ref a :: vs) I2 H2 i2 R2 (.cel hc d2)
  | [], _ :: _, s, r, s', hm => by cases hm
  | false :: _, [], s, r, s', hm => by cases hm
  | true :: _, [], s, r, s', hm => by cases hm
  | true :: _, .BoolOp .. :: _, s, r, s', hm => by cases hm
  | true :: _, .NamedExpr .. :: _, s, r, s', hm => by cases hm
  | true :: _, .BinOp .. :: _, s, r, s', hm => by cases hm
  | true :: _, .UnaryOp .. :: _, s, r, s', hm => by cases hm
  | true :: _, .Lambda .. :: _, s, r, s', hm => by cases hm
  | true :: _, .IfExp .. :: _, s, r, s', hm => by cases hm
  | true :: _, .Dict .. :: _, s, r, s', hm => by cases hm
  | true :: _, .Set .. :: _, s, r, s', hm => by cases hm
  | true :: _, .ListComp .. :: _, s, r, s', hm => by cases hm
  | true :: _, .SetComp .. :: _, s, r, s', hm => by cases hm
  | true :: _, .DictComp .. :: _, s, r, s', hm => by cases hm
  | true :: _, .GeneratorExp .. :: _, s, r, s', hm => by cases hm
  | true :: _, .Await .. :: _, s, r, s', hm => by cases hm
  | true :: _, .Yield .. :: _, s, r, s', hm => by cases hm
  | true :: _, .YieldFrom .. :: _, s, r, s', hm => by cases hm
  | true :: _, .Compare .. :: _, s, r, s', hm => by cases hm
  | true :: _, .Call .. :: _, s, r, s', hm => by cases hm
  | true :: _, .FormattedValue .. :: _, s, r, s', hm => by cases hm
  | true :: _, .JoinedStr .. :: _, s, r, s', hm => by cases hm
  | true :: _, .Constant .. :: _, s, r, s', hm => by cases hm
  | true :: _, .Attribute .. :: _, s, r, s', hm => by cases hm
  | true :: _, .Subscript .. :: _, s, r, s', hm => by cases hm
  | true :: _, .Starred .. :: _, s, r, s', hm => by cases hm
  | true :: _, .List .. :: _, s, r, s', hm => by cases hm
  | true :: _, .Tuple .. :: _, s, r, s', hm => by cases hm
  | true :: _, .Slice .. :: _, s, r, s', hm => by cases hm
/-- no list to be changed -/
theorem args0 {K : PySem.W.Frag} {F : Fx} {σ : St} {I : Hp} : ∀ {sg : List Bool} {vs : List V} {ds : List D}, ArgsC K F σ I sg vs ds [] → ArgsR K I sg vs ds []
  | _, _, _, .nil => .nil
  | _, _, _, .dat h t => .dat h (args0 t)
theorem args1 {K : PySem.W.Frag} {F : Fx} {σ : St} {I : Hp} {c : Cell} : ∀ {sg : List Bool} {vs : List V} {ds : List D}, ArgsC K F σ I sg vs ds [c] → ∃ a, CelAt F σ c a ∧ ArgsR K I sg vs ds [a]
  | _, _, _, .dat h t => by
    obtain ⟨a, h1, h2⟩ := args1 t
    exact ⟨a, h1, .dat h h2⟩
  | _, _, _, .cel h t => ⟨_, h, .bor (args0 t)⟩
/-- what comes behind the call of a def that keeps its promise -/
theorem call_ok {fn : Fn} {r : List D × List Cell} {d : D} {s s' : S} (hm : callFn fn r s = .ok d s') {F : Fx} {I H : Hp} {σ : St} {vs : List V} {Q : VK} {E : XK} (Rl : Rel X.K F I H σ s) (ha : ArgsC X.K F σ I fn.sig vs r.1 r.2)
    (q : ∀ v I' H', Same I I' → Rel X.K F I' H' σ s' → ResR fn.fresh X.K H I' H' v d → (∀ (i : Nat) (es : List D), s'.g[i]? = some (Sl.own es) → ∃ a vs, σ[i]? = some (some (V.ref a)) ∧ H a = some (.lst vs)) → Q v H') : spF X.K fn vs H Q E := by
  obtain ⟨ds, cs⟩ := r
  unfold callFn at hm
  have own0 : ∀ (i : Nat) (es : List D), s.g[i]? = some (Sl.own es) → ∃ a vs, σ[i]? = some (some (V.ref a)) ∧ H a = some (.lst vs) := fun i es e => by
    obtain ⟨a, vs, h1, _, _, _, h5, _⟩ := Rl.own i es e
    exact ⟨a, vs, h1, h5⟩
  match cs, hm, ha with
  | [], hm, ha =>
    simp only at hm
    split at hm
    · rename_i d' er
      cases hm
      refine ⟨I, ds, [], [], d, [], args0 ha, Rl.le, .nil, List.nodup_nil, er, fun v I' H' a1 a2 a3 a4 a5 a6 => ?_⟩
      exact q v I' H' a1 (Rl.call0 a1 a2 (fun a o h => a3 a o (by simp) h) a4) a6 own0
    · cases hm
  | [c], hm, ha =>
    simp only at hm
    obtain ⟨a, hc, hr⟩ := args1 ha
    split at hm
    · rename_i ds0 eg
      split at hm
      · rename_i d' es er
        cases hm
        cases c with
        | own i =>
          have eg2 : (match s.g[i]? with | some (Sl.own ds) => some ds | _ => none) = some ds0 := eg
          split at eg2
          · rename_i ds' ei
            cases eg2
            have hc' : σ[i]? = some (some (V.ref a)) := hc
            obtain ⟨a', ws, h1, h2, h3, h4, h5, h6⟩ := Rl.own i _ ei
            rw [hc'] at h1
            cases h1
            refine ⟨I, ds, [a], [ds0], d, [es], hr, Rl.le, .cons h3 h5 h6 .nil, by simp, er, fun v I' H' a1 a2 a3 a4 a5 a6 => ?_⟩
            cases a5 with
            | cons b1 b2 b3 b4 =>
              refine q v I' H' a1 (Rl.call1O ei hc' a1 a2 (fun b o hb h => a3 b o (by simpa using hb) h) a4 b2 b3) a6 (fun j es' ej => ?_)
              rcases gset ej with ⟨rfl, e'⟩ | ⟨hne, ej⟩
              · exact ⟨a, ws, hc', h5⟩
              · exact own0 j es' ej
          · cases eg2
        | bor m =>
          have eg' : s.b[m]? = some ds0 := eg
          have hc' : F.bs[m]? = some a := hc
          obtain ⟨ws, ds', h1, h2, h3, h4⟩ := Rl.bs m a hc'
          rw [eg'] at h1
          cases h1
          refine ⟨I, ds, [a], [ds0], d, [es], hr, Rl.le, .cons h2 h3 h4 .nil, by simp, er, fun v I' H' a1 a2 a3 a4 a5 a6 => ?_⟩
          cases a5 with
          | cons b1 b2 b3 b4 =>
            exact q v I' H' a1 (Rl.call1B hc' a1 a2 (fun b o hb h => a3 b o (by simpa using hb) h) a4 b2 b3) a6 own0
      · cases hm
    · cases hm
  | _ :: _ :: _, hm, ha => cases hm
/-- f(e, ..): the promise is kept behind the arguments -/
theorem snd_call0 (cx : CtxOk k C X) (sn : ∀ e, SndE X e (R.e e)) {x : Str} {args : List Expr} {p q : Pos} {fn : Fn} (hg : isGl C x = true) (hf : C.fns x args.length [] = some fn) {s s1 : S} {r : List D × List Cell} (h1 : evArgs C R fn.sig args s = .ok r s1)
    {F : Fx} {I H : Hp} {σ : St} {Q : VK} (Rl : Rel X.K F I H σ s) (qq : ∀ vs I' H', Same I I' → Rel X.K F I' H' σ s1 → ArgsC X.K F σ I' fn.sig vs r.1 r.2 → spF X.K fn vs H' Q E0) : EvE X (.Call (.Name x p) args [] q) σ H Q := by
  obtain ⟨g1, g2⟩ := isGl_ok cx hg
  obtain ⟨hs, hl, go⟩ := snd_args cx sn fn.sig args s r s1 h1
  have ft := cx.fns x args.length [] fn hf
  cases ft with
  | @pos fn f fd ps sp ds dvs f1 f2 f3 f4 f5 f6 f7 =>
    cases args with
    | nil =>
      have e0 : fn.sig = [] := List.eq_nil_of_length_eq_zero hl
      rw [e0] at h1 qq
      obtain ⟨rfl, rfl⟩ := ret_ok (show ret ([], []) s = .ok r s1 from h1)
      refine ofPE (pe_call0 f3 cx.room g1 f1 f2 f4 f5 pass0 g2) ?_
      exact f7 [] H Q E0 (qq [] I H (Same.refl I) Rl .nil)
    | cons e es =>
      rw [List.all_cons, Bool.and_eq_true] at hs
      refine ofPE (pe_call f3 cx.room g1 f1 f2 f4 f5 pass0 (pa_w (e :: es)) g2 (star_cons hs.1 es X.env) (noStars_any hs.2)) ?_
      exact go F I H σ _ Rl fun vs I' H' i1 R1 ha => f7 vs H' Q E0 (qq vs I' H' i1 R1 ha)
  | @kw fn f fd ps sp ks g gV f1 f2 f3 f4 f5 f6 f7 f8 => exact absurd rfl f6
theorem snd_callE (cx : CtxOk k C X) (sn : ∀ e, SndE X e (R.e e)) {x : Str} {args : List Expr} {p q : Pos} {fn : Fn} (hg : isGl C x = true) (hf : C.fns x args.length [] = some fn) (hr : fn.fresh = false) : SndE X (.Call (.Name x p) args [] q) (bnd (evArgs C R fn.sig args) (callFn fn)) := by
  intro s d s' hm F I H σ Q Rl qq
  obtain ⟨r, s1, h1, h2⟩ := bnd_ok hm
  refine snd_call0 cx sn hg hf h1 Rl fun vs I1 H1 i1 R1 ha => ?_
  refine call_ok h2 R1 ha fun v I2 H2 i2 R2 rs _ => qq v I2 H2 (i1.trans i2) R2 ?_
  unfold ResR at rs
  rw [hr, if_neg Bool.false_ne_true] at rs
  exact rs
theorem snd_callL (cx : CtxOk k C X) (sn : ∀ e, SndE X e (R.e e)) {x : Str} {args : List Expr} {p q : Pos} {fn : Fn} (hg : isGl C x = true) (hf : C.fns x args.length [] = some fn) (hr : fn.fresh = true) :
    SndL X (.Call (.Name x p) args [] q) (bnd (evArgs C R fn.sig args) fun a => bnd (callFn fn a) fun d => lift (match d with | .list ds => some ds | _ => none)) := by
  intro s ds s' hm F I H σ Q Rl qq
  obtain ⟨r, s1, h1, h2⟩ := bnd_ok hm
  obtain ⟨d, s2, h3, h4⟩ := bnd_ok h2
  obtain ⟨e, rfl⟩ := lift_ok h4
  cases d <;> try (cases e; done)
  cases e
  refine snd_call0 cx sn hg hf h1 Rl fun vs I1 H1 i1 R1 ha => ?_
  refine call_ok h3 R1 ha fun v I2 H2 i2 R2 rs own => ?_
  unfold ResR at rs
  rw [hr, if_pos rfl] at rs
  obtain ⟨a, ws, ds', rfl, e2, k1, k2, k3, k4⟩ := rs
  cases e2
  refine qq a I2 H2 (i1.trans i2) R2 ⟨R1.fresh0 k1, k2, R1.freshB k1, ⟨ws, k3, k4⟩, fun i es ei z => ?_⟩
  obtain ⟨b, us, o1, o2⟩ := own i es ei
  rw [z] at o1
  cases o1
  rw [k1] at o2
  cases o2
/-- f(k = e, ..) -/
def EvK' (X : Cx) (kws : List Keyword) : TA := fun σ H Q => ∀ (pos : Pos) (pins : List (Addr × Obj)) (s : Shared), Inv X pins σ H s → wpAny (model X.prog X.w) X.A (evalAll ((backToKw pos (keywordEach kws X.env)).map (·.2))) (AP X pins σ Q) X.xe s
theorem pk_w (kws : List Keyword) : PK X kws (EvK' X kws) := ⟨fun pos pins s _ _ _ I h => h pos pins s I⟩
theorem ofPK {kws : List Keyword} {t : TA} {σ : St} {H : Hp} {Q : List V → Hp → Prop} (h : PK X kws t) (w : t σ H Q) : EvK' X kws σ H Q := fun pos pins s I => h.run pos pins s σ H Q I w
theorem snd_kws (cx : CtxOk k C X) (sn : ∀ e, SndE X e (R.e e)) : ∀ (kws : List Keyword) (s : S) (r : List D × List Cell) (s' : S), evArgs C R (kws.map fun _ => false) (kws.map (·.value)) s = .ok r s' → r.2 = [] ∧ r.1.length = kws.length ∧ ∀ (F : Fx) (I H : Hp) (σ : St) (Q : List V → Hp → Prop), Rel X.K F I H σ s →
    (∀ vs I' H', Same I I' → Rel X.K F I' H' σ s' → ArgsC X.K F σ I' (kws.map fun _ => false) vs r.1 [] → vs.length = kws.length → Q vs H') → EvK' X kws σ H Q
  | [], s, r, s', hm => by
    obtain ⟨rfl, rfl⟩ := ret_ok (show ret ([], []) s = .ok r s' from hm)
    exact ⟨rfl, rfl, fun F I H σ Q Rl q => ofPK pk_nil (q [] I H (Same.refl I) Rl .nil rfl)⟩
  | ⟨nm, e, kp⟩ :: kws, s, r, s', hm => by
    have hm' : (if noStar e then bnd (R.e e) fun d => bnd (evArgs C R (kws.map fun _ => false) (kws.map (·.value))) fun r => ret (d :: r.1, r.2) else fail) s = .ok r s' := hm
    by_cases hs : noStar e = true
    · rw [if_pos hs] at hm'
      obtain ⟨d, s1, h1, h2⟩ := bnd_ok hm'
      obtain ⟨r', s2, h3, h4⟩ := bnd_ok h2
      obtain ⟨rfl, rfl⟩ := ret_ok h4
      obtain ⟨hc, hl, ih⟩ := snd_kws cx sn kws s1 r' _ h3
      refine ⟨hc, by rw [List.length_cons, List.length_cons, hl], fun F I H σ Q Rl q => ?_⟩
      refine ofPK (pk_cons (pe_w e) (pk_w kws)) ?_
      refine sn e s d s1 h1 F I H σ _ Rl fun v I1 H1 i1 R1 d1 => ?_
      refine ih F I1 H1 σ _ R1 fun vs I2 H2 i2 R2 d2 hv => ?_
      exact q (v :: vs) I2 H2 (i1.trans i2) R2 (.dat (dp_mono i2 d d1) d2) (by rw [List.length_cons, List.length_cons, hv])
    · rw [if_neg hs] at hm'
      cases hm'
theorem kw_names : ∀ (kws : List Keyword) (env : Env) (pos : Pos), (backToKw pos (keywordEach kws env)).filterMap (·.1) = kws.filterMap (·.arg)
  | [], _, _ => rfl
  | ⟨nm, e, kp⟩ :: kws, env, pos => by
    have ih := kw_names kws env pos
    cases nm with
    | none => exact ih
    | some x => exact congrArg (x :: ·) ih
theorem kw_all : ∀ (kws : List Keyword) (env : Env) (pos : Pos), kws.all (·.arg.isSome) = true → (backToKw pos (keywordEach kws env)).all (·.1.isSome) = true
  | [], _, _, _ => rfl
  | ⟨nm, e, kp⟩ :: kws, env, pos, h => by
    rw [List.all_cons, Bool.and_eq_true] at h
    have ih := kw_all kws env pos h.2
    show (nm.isSome && (backToKw pos (keywordEach kws env)).all (·.1.isSome)) = true
    rw [ih, h.1]
    rfl
theorem kw_any : ∀ (kws : List Keyword) (env : Env) (pos : Pos), kws.all (·.arg.isSome) = true → (backToKw pos (keywordEach kws env)).any (·.1.isNone) = false
  | [], _, _, _ => rfl
  | ⟨nm, e, kp⟩ :: kws, env, pos, h => by
    rw [List.all_cons, Bool.and_eq_true] at h
    have ih := kw_any kws env pos h.2
    show (nm.isNone || (backToKw pos (keywordEach kws env)).any (·.1.isNone)) = false
    rw [ih, Bool.or_false]
    cases nm with
    | none => cases h.1
    | some x => rfl
theorem filterMap_len : ∀ {kws : List Keyword}, kws.all (·.arg.isSome) = true → (kws.filterMap (·.arg)).length = kws.length
  | [], _ => rfl
  | ⟨nm, e, kp⟩ :: kws, h => by
    rw [List.all_cons, Bool.and_eq_true] at h
    cases nm with
    | none => cases h.1
    | some x => exact congrArg Nat.succ (filterMap_len h.2)
theorem snd_callK (cx : CtxOk k C X) (sn : ∀ e, SndE X e (R.e e)) {x : Str} {kws : List Keyword} {p q : Pos} {fn : Fn} (hg : isGl C x = true) (hne : kws ≠ []) (hf : C.fns x 0 (kws.filterMap (·.arg)) = some fn) (hr : fn.fresh = false) (hall : kws.all (·.arg.isSome) = true) :
    SndE X (.Call (.Name x p) [] kws q) (bnd (evArgs C R fn.sig (kws.map (·.value))) (callFn fn)) := by
  intro s d s' hm F I H σ Q Rl qq
  obtain ⟨r, s1, h1, h2⟩ := bnd_ok hm
  obtain ⟨g1, g2⟩ := isGl_ok cx hg
  have hk0 : kws.filterMap (·.arg) ≠ [] := fun z => by
    have := filterMap_len hall
    rw [z] at this
    exact hne (List.eq_nil_of_length_eq_zero this.symm)
  have ft := cx.fns x 0 _ fn hf
  generalize hks : kws.filterMap (·.arg) = ks at ft
  cases ft with
  | @pos fn f fd ps sp ds dvs f1 f2 f3 f4 f5 f6 f7 => exact absurd hks hk0
  | @kw fn f fd ps sp ks g gV f1 f2 f3 f4 f5 f6 f7 f8 =>
    have es : fn.sig = kws.map fun _ => false := by
      rw [f7, ← hks]
      have hl := filterMap_len hall
      rw [List.map_const', List.map_const', hl]
    rw [es] at h1
    obtain ⟨hc, hl, go⟩ := snd_kws cx sn kws s r s1 h1
    refine fun pins sh inv => wpAny_Call_Name_kw (ld_glob inv g1 f1 ?_ g2)
    refine PySem.W.callWith_KW0 (h₀ := X.base) inv.ok.mod.kin f2 (kw_all kws X.env q hall) ?_ (by
      show ((false : Bool) || _) = false
      rw [Bool.false_or]
      exact kw_any kws X.env q hall)
    refine thn (go F I H σ (fun zs H2 => zs.length = kws.length ∧ spF X.K fn zs H2 Q E0) Rl (fun vs I1 H1 i1 R1 ha hv => ⟨hv, ?_⟩) q pins sh inv) fun ws s2 ⟨zs, H2, I2, rz, hzl, q2⟩ => ⟨I2.kIn, ?_⟩
    · rw [← es] at ha
      refine call_ok h2 R1 (by rw [hc]; exact ha) fun v I2 H2 i2 R2 rs _ => qq v I2 H2 (i1.trans i2) R2 ?_
      unfold ResR at rs
      rw [hr, if_neg Bool.false_ne_true] at rs
      exact rs
    · rw [kw_names, hks]
      exact run_fnN (us := []) (vs := []) f3 cx.room f4 pass0 I2 .nil rz rfl (by rw [hzl, ← filterMap_len hall, hks]) (f8 zs H2 Q E0 q2)
/-- list(x) -/
theorem snd_listOf (cx : CtxOk k C X) (sn : Snd C X R) {a : Expr} {p q : Pos} (hb : isBlt C "list" = true) (hs : noStar a = true) : SndL X (.Call (.Name "list" p) [a] [] q) (bnd (pkE C R a) fun c => lift (seqD c)) := by
  intro s ds s' hm F I H σ Q Rl qq
  obtain ⟨c, s1, h1, h2⟩ := bnd_ok hm
  obtain ⟨e, rfl⟩ := lift_ok h2
  obtain ⟨g1, g2, g3, g4⟩ := isBlt_ok cx hb
  refine ofPE (pe_callTy call_list_of g1 g3 (by decide +kernel) (pa_1 hs) g4 g2 (star1 hs) rfl) (snd_pkE cx sn a s _ _ h1 F I H σ _ Rl fun v I1 H1 i1 R1 d1 => ?_)
  cases c <;> try (cases e; done)
  · cases e
    obtain ⟨b, vs, rfl, k1, k2⟩ := pk_list R1.le d1
    refine ⟨b, vs, rfl, .inl (k1), fun l hl => ?_⟩
    obtain ⟨a1, a2⟩ := fresh_new R1 hl k2
    exact qq l I1 _ i1 a1 a2
  · cases e
    obtain ⟨b, vs, rfl, k1, k2⟩ := pk_tup R1.le d1
    refine ⟨b, vs, rfl, .inr k1, fun l hl => ?_⟩
    obtain ⟨a1, a2⟩ := fresh_new R1 hl k2
    exact qq l I1 _ i1 a1 a2
end
end Bw
end

set_option Elab.async false
set_option linter.all false
set_option maxRecDepth 100000
set_option maxHeartbeats 4000000
noncomputable section
namespace Bw
open PySem L2 PySem.Spec

/-! ### what is walked -/
section
variable {X : Cx} {k : Nat} {C : Cf} {R : EvK}
theorem walk_list {K : PySem.W.Frag} {I : Hp} {a : Addr} {vs : List V} {ds : List D} (h1 : SqL K I a vs) (h2 : DtAll K I vs ds) : Walk K (Itl K a) I ds := by
  intro i I2 H2 i1 i2
  have h3 : SqL K H2 a vs := (i1.trans i2).seq h1
  refine ⟨fun d e => ?_, fun e => ⟨vs, h3, by rw [dps_len h2]; exact e⟩⟩
  obtain ⟨v, k1, k2⟩ := dps_get h2 e
  refine ⟨⟨vs, v, h3, k1⟩, fun x H3 hy => .inl ⟨hy.1, ?_⟩⟩
  have e2 := hy.2 vs h3
  rw [k1] at e2
  cases e2
  exact dp_mono i1 d k2
theorem walk_tup {K : PySem.W.Frag} {I : Hp} {a : Addr} {vs : List V} {ds : List D} (h1 : SqT K I a vs) (h2 : DtAll K I vs ds) : Walk K (Itt K a) I ds := by
  intro i I2 H2 i1 i2
  have h3 : SqT K H2 a vs := sqT_mono (i1.trans i2) h1
  refine ⟨fun d e => ?_, fun e => ⟨vs, h3, by rw [dps_len h2]; exact e⟩⟩
  obtain ⟨v, k1, k2⟩ := dps_get h2 e
  refine ⟨⟨vs, v, h3, k1⟩, fun x H3 hy => .inl ⟨hy.1, ?_⟩⟩
  have e2 := hy.2 vs h3
  rw [k1] at e2
  cases e2
  exact dp_mono i1 d k2
theorem walk_range {K : PySem.W.Frag} {I : Hp} (lo : Int) (m : Nat) : Walk K (Itr lo m) I ((List.range m).map fun i => PyData.int (lo + (i : Nat))) := by
  intro i I2 H2 i1 i2
  refine ⟨fun d e => ?_, fun e => (by simpa using e : m ≤ i)⟩
  rw [List.getElem?_map] at e
  cases q : (List.range m)[i]? with
  | none => rw [q] at e; cases e
  | some j =>
    rw [q] at e
    cases e
    obtain ⟨h1, h2⟩ := List.getElem?_eq_some_iff.mp q
    rw [List.getElem_range] at h2
    subst h2
    rw [List.length_range] at h1
    refine ⟨h1, fun x H3 hy => .inl ⟨hy.1, ?_⟩⟩
    rw [hy.2]
    exact .int _
theorem walk_enum {K : PySem.W.Frag} {I : Hp} {a : Addr} {vs : List V} {ds : List D} (h1 : SqL K I a vs) (h2 : DtAll K I vs ds) : Walk K (Ite K a) I ((List.range ds.length).zipWith (fun i x => PyData.tuple [.int (i : Nat), x]) ds) := by
  intro i I2 H2 i1 i2
  have h3 : SqL K H2 a vs := (i1.trans i2).seq h1
  refine ⟨fun d e => ?_, fun e => ⟨vs, h3, by rw [dps_len h2]; simpa using e⟩⟩
  rw [List.getElem?_zipWith] at e
  cases q1 : (List.range ds.length)[i]? with
  | none => rw [q1] at e; cases e
  | some j =>
    cases q2 : ds[i]? with
    | none => rw [q1, q2] at e; cases e
    | some x =>
      rw [q1, q2] at e
      cases e
      obtain ⟨g1, g2⟩ := List.getElem?_eq_some_iff.mp q1
      rw [List.getElem_range] at g2
      subst g2
      obtain ⟨v, k1, k2⟩ := dps_get h2 q2
      refine ⟨⟨vs, v, h3, k1⟩, fun y H3 hy => ?_⟩
      obtain ⟨T, z, rfl, hT, rfl, hz⟩ := hy
      have e2 := hz vs h3
      rw [k1] at e2
      cases e2
      have hTI : I2 T = none := i2.free hT
      have sI : Same I2 (upd I2 T (.tup [.int (i : Nat), v])) := same_new hTI _
      exact .inr ⟨T, _, hT, rfl, .tup (SqT.of upd_same) (.cons (.int _) (.cons (dp_mono (i1.trans sI) x k2) .nil))⟩
theorem zip_at {xs ys : List D} {i : Nat} {d : D} (e : (List.zipWith (fun x y => PyData.tuple [x, y]) xs ys)[i]? = some d) : ∃ x y, xs[i]? = some x ∧ ys[i]? = some y ∧ d = .tuple [x, y] := by
  rw [List.getElem?_zipWith] at e
  cases q1 : xs[i]? with
  | none => rw [q1] at e; cases e
  | some x =>
    cases q2 : ys[i]? with
    | none => rw [q1, q2] at e; cases e
    | some y =>
      rw [q1, q2] at e
      cases e
      exact ⟨x, y, rfl, rfl, rfl⟩
theorem walk_zipL {K : PySem.W.Frag} {I : Hp} {a b : Addr} {vs us : List V} {ds es : List D} (h1 : SqL K I a vs) (h2 : DtAll K I vs ds) (g1 : SqL K I b us) (g2 : DtAll K I us es) : Walk K (Itz K a b) I (List.zipWith (fun x y => PyData.tuple [x, y]) ds es) := by
  intro i I2 H2 i1 i2
  have h3 : SqL K H2 a vs := (i1.trans i2).seq h1
  have g3 : SqL K H2 b us := (i1.trans i2).seq g1
  refine ⟨fun d e => ?_, fun e => ⟨vs, us, h3, g3, by rw [dps_len h2, dps_len g2]; rw [List.length_zipWith] at e; omega⟩⟩
  obtain ⟨x, y, q1, q2, rfl⟩ := zip_at e
  obtain ⟨v, k1, k2⟩ := dps_get h2 q1
  obtain ⟨u, l1, l2⟩ := dps_get g2 q2
  refine ⟨⟨vs, us, v, u, h3, g3, k1, l1⟩, fun z H3 hy => ?_⟩
  obtain ⟨T, z1, z2, rfl, hT, rfl, hz1, hz2⟩ := hy
  have e1 := hz1 vs h3
  have e2 := hz2 us g3
  rw [k1] at e1
  rw [l1] at e2
  cases e1
  cases e2
  have sI : Same I2 (upd I2 T (.tup [v, u])) := same_new (i2.free hT) _
  exact .inr ⟨T, _, hT, rfl, .tup (SqT.of upd_same) (.cons (dp_mono (i1.trans sI) x k2) (.cons (dp_mono (i1.trans sI) y l2) .nil))⟩
theorem walk_zipT {K : PySem.W.Frag} {I : Hp} {a b : Addr} {vs us : List V} {ds es : List D} (h1 : SqT K I a vs) (h2 : DtAll K I vs ds) (g1 : SqT K I b us) (g2 : DtAll K I us es) : Walk K (RZ.ItzT K a b) I (List.zipWith (fun x y => PyData.tuple [x, y]) ds es) := by
  intro i I2 H2 i1 i2
  have h3 : SqT K H2 a vs := sqT_mono (i1.trans i2) h1
  have g3 : SqT K H2 b us := sqT_mono (i1.trans i2) g1
  refine ⟨fun d e => ?_, fun e => ⟨vs, us, h3, g3, by rw [dps_len h2, dps_len g2]; rw [List.length_zipWith] at e; omega⟩⟩
  obtain ⟨x, y, q1, q2, rfl⟩ := zip_at e
  obtain ⟨v, k1, k2⟩ := dps_get h2 q1
  obtain ⟨u, l1, l2⟩ := dps_get g2 q2
  refine ⟨⟨vs, us, v, u, h3, g3, k1, l1⟩, fun z H3 hy => ?_⟩
  obtain ⟨T, z1, z2, rfl, hT, rfl, hz1, hz2⟩ := hy
  have e1 := hz1 vs h3
  have e2 := hz2 us g3
  rw [k1] at e1
  rw [l1] at e2
  cases e1
  cases e2
  have sI : Same I2 (upd I2 T (.tup [v, u])) := same_new (i2.free hT) _
  exact .inr ⟨T, _, hT, rfl, .tup (SqT.of upd_same) (.cons (dp_mono (i1.trans sI) x k2) (.cons (dp_mono (i1.trans sI) y l2) .nil))⟩
/-- a list or a tuple as it is -/
theorem snd_seqI (sn : ∀ e, SndE X e (R.e e)) (tg iter : Expr) : SndI X tg iter (bnd (R.e iter) fun d => lift (seqD d)) := by
  intro s ds s' hm F I H σ Q Rl q
  obtain ⟨d, s1, h1, h2⟩ := bnd_ok hm
  obtain ⟨e, rfl⟩ := lift_ok h2
  cases d <;> try (cases e; done)
  · cases e
    refine ofPI (pi_list (pe_w iter)) (sn iter s _ _ h1 F I H σ _ Rl fun v I1 H1 i1 R1 d1 => ?_)
    cases d1 with | @lst a vs _ k1 k2 =>
    exact ⟨a, rfl, ⟨vs, R1.le.seq k1⟩, q _ I1 H1 i1 R1 (walk_list k1 k2)⟩
  · cases e
    refine ofPI (pi_tup (pe_w iter)) (sn iter s _ _ h1 F I H σ _ Rl fun v I1 H1 i1 R1 d1 => ?_)
    cases d1 with | @tup a vs _ k1 k2 =>
    exact ⟨a, rfl, ⟨vs, sqT_mono R1.le k1⟩, q _ I1 H1 i1 R1 (walk_tup k1 k2)⟩
theorem snd_stepI {RC : Cf → EvK} (cx : CtxOk k C X) (sn : Snd C X (RC C)) (tg iter : Expr) : SndI X tg iter (stepI RC C tg iter) := by
  cases iter with
  | Call f args kws q =>
    cases f with
    | Name x p =>
      cases kws with
      | cons kw kws => exact snd_seqI sn.e tg _
      | nil =>
        intro s ds s' hm F I H σ Q Rl qq
        have gen : bnd ((RC C).e (.Call (.Name x p) args [] q)) (fun d => lift (seqD d)) s = .ok ds s' → EvI X tg (.Call (.Name x p) args [] q) σ H Q := fun hm => snd_seqI sn.e tg _ s ds s' hm F I H σ Q Rl qq
        unfold stepI at hm
        simp only at hm
        by_cases hb : (isBlt C x && args.all noStar) = true
        · rw [if_pos hb] at hm
          rw [Bool.and_eq_true] at hb
          obtain ⟨hb, hs⟩ := hb
          obtain ⟨g1, g2, g3, g4⟩ := isBlt_ok cx hb
          by_cases ex : x = "range"
          · subst ex
            rw [if_pos rfl] at hm
            match args, hm, hs with
            | [], hm, hs => cases hm
            | [a], hm, hs =>
              have ha : noStar a = true := by simpa using hs
              obtain ⟨d, s1, h1, h2⟩ := bnd_ok hm
              obtain ⟨e, rfl⟩ := lift_ok h2
              cases d <;> try (cases e; done)
              rename_i j
              have e' : (if inR j = true then some ((List.range j.toNat).map fun i => PyData.int (0 + (i : Nat))) else none) = some ds := e
              by_cases hj : inR j = true
              · rw [if_pos hj] at e'
                cases e'
                replace hj := inR_iff.mp hj
                refine ofPI (pi_range1 g1 g3 (pa_1 ha) (star_cons ha [] X.env)) (sn.e a s _ _ h1 F I H σ _ Rl fun v I1 H1 i1 R1 d1 => ?_)
                cases d1
                exact ⟨j, rfl, hj.1, hj.2, qq _ I1 H1 i1 R1 (walk_range 0 j.toNat)⟩
              · rw [if_neg hj] at e'
                cases e'
            | [a, b], hm, hs =>
              have ha : noStar a = true ∧ noStar b = true := by simpa using hs
              obtain ⟨d, s1, h1, h2⟩ := bnd_ok hm
              obtain ⟨d', s2, h3, h4⟩ := bnd_ok h2
              obtain ⟨e, rfl⟩ := lift_ok h4
              cases d <;> try (cases e; done)
              cases d' <;> try (cases e; done)
              rename_i i j
              have e' : (if (inR i && inR j) = true then some ((List.range (j - i).toNat).map fun k => PyData.int (i + (k : Nat))) else none) = some ds := e
              by_cases hj : (inR i && inR j) = true
              · rw [if_pos hj] at e'
                cases e'
                replace hj : (-(2 ^ 62) ≤ i ∧ i < 2 ^ 62) ∧ (-(2 ^ 62) ≤ j ∧ j < 2 ^ 62) := by
                  rw [Bool.and_eq_true] at hj
                  exact ⟨inR_iff.mp hj.1, inR_iff.mp hj.2⟩
                refine ofPI (pi_range2 g1 g3 (pa_2 ha.1 ha.2) (by rw [star_cons ha.1, star_cons ha.2]; rfl) (star_cons ha.2 [] X.env)) (sn.e a s _ _ h1 F I H σ _ Rl fun v I1 H1 i1 R1 d1 => ?_)
                refine sn.e b s1 _ _ h3 F I1 H1 σ _ R1 fun u I2 H2 i2 R2 d2 => ?_
                cases d1
                cases d2
                exact ⟨i, j, rfl, ⟨hj.1.1, hj.1.2, hj.2.1, hj.2.2⟩, qq _ I2 H2 (i1.trans i2) R2 (walk_range i (j - i).toNat)⟩
              · rw [if_neg hj] at e'
                cases e'
            | _ :: _ :: _ :: _, hm, hs => cases hm
          rw [if_neg ex] at hm
          clear ex
          by_cases ex : x = "enumerate"
          · subst ex
            rw [if_pos rfl] at hm
            cases tg with
            | Tuple elts kk tpos =>
              match args, hm, hs with
              | [], hm, hs => cases hm
              | [a], hm, hs =>
                have ha : noStar a = true := by simpa using hs
                obtain ⟨d, s1, h1, h2⟩ := bnd_ok hm
                obtain ⟨e, rfl⟩ := lift_ok h2
                cases d <;> try (cases e; done)
                cases e
                refine ofPI (pi_enum g1 g3 (pa_1 ha) (star_cons ha [] X.env)) (sn.e a s _ _ h1 F I H σ _ Rl fun v I1 H1 i1 R1 d1 => ?_)
                cases d1 with | @lst b vs _ k1 k2 =>
                exact ⟨b, vs, rfl, R1.le.seq k1, qq _ I1 H1 i1 R1 (walk_enum k1 k2)⟩
              | _ :: _ :: _, hm, hs => cases hm
            | _ => cases hm
          rw [if_neg ex] at hm
          clear ex
          by_cases ex : x = "zip"
          · subst ex
            rw [if_pos rfl] at hm
            cases tg with
            | Tuple elts kk tpos =>
              match args, hm, hs with
              | [], hm, hs => cases hm
              | [_], hm, hs => cases hm
              | [a, b], hm, hs =>
                have ha : noStar a = true ∧ noStar b = true := by simpa using hs
                obtain ⟨d, s1, h1, h2⟩ := bnd_ok hm
                obtain ⟨d', s2, h3, h4⟩ := bnd_ok h2
                obtain ⟨e, rfl⟩ := lift_ok h4
                refine ofPI (RZ.pi_zipA g1 g3 (pa_2 ha.1 ha.2) (star_cons ha.1 [b] X.env) (noStars_any (by rw [List.all_cons, ha.2]; rfl))) (sn.e a s _ _ h1 F I H σ _ Rl fun v I1 H1 i1 R1 d1 => ?_)
                refine sn.e b s1 _ _ h3 F I1 H1 σ _ R1 fun u I2 H2 i2 R2 d2 => ?_
                cases d <;> try (cases e; done)
                · cases d' <;> try (cases e; done)
                  cases e
                  cases d1 with | @lst b1 vs _ k1 k2 =>
                  cases d2 with | @lst b2 us _ l1 l2 =>
                  exact ⟨b1, b2, vs, us, rfl, .inl ⟨(i2.trans R2.le).seq k1, R2.le.seq l1, qq _ I2 H2 (i1.trans i2) R2 (walk_zipL (i2.seq k1) (dps_mono i2 _ k2) l1 l2)⟩⟩
                · cases d' <;> try (cases e; done)
                  cases e
                  cases d1 with | @tup b1 vs _ k1 k2 =>
                  cases d2 with | @tup b2 us _ l1 l2 =>
                  exact ⟨b1, b2, vs, us, rfl, .inr ⟨sqT_mono (i2.trans R2.le) k1, sqT_mono R2.le l1, qq _ I2 H2 (i1.trans i2) R2 (walk_zipT (sqT_mono i2 k1) (dps_mono i2 _ k2) l1 l2)⟩⟩
              | _ :: _ :: _ :: _, hm, hs => cases hm
            | _ => cases hm
          rw [if_neg ex] at hm
          exact gen hm
        · rw [if_neg hb] at hm
          exact gen hm
    | _ => exact snd_seqI sn.e tg _
  | _ => exact snd_seqI sn.e tg _
end
end Bw
end

set_option Elab.async false
set_option linter.all false
set_option maxRecDepth 100000
set_option maxHeartbeats 4000000
noncomputable section
namespace Bw
open PySem L2 PySem.Spec PyProof.Rows

/-! ### a, b, *rest = xs -/
section
variable {prog : Program} {w : World} {A : Around} {E : Value → Shared → Prop} {s : Shared}
theorem star_list {l : Addr} {items : Array Value} {i : Nat} {Q : List Value → Shared → Prop} (hl : s.heap.IsList l items) (hh : A.handled = none) (hi : i ≤ items.size) (hz : items.size ≤ sizeLine)
    (h : ∀ (h' : Heap) (tk : Nat), (∀ b o, s.heap.get? b = some o → h'.get? b = some o) → Q (items.toList.take i ++ [.ref h'.objs.size]) { s with heap := h'.push { cls := .type "list", data := .seq (items.toList.drop i).toArray }, toks := tk }) :
    wpAny (model prog w) A (unpackItems (.ref l) (i + 1) (some i)) Q E s := by
  have hll : l < s.heap.objs.size := let ⟨_, ho, _⟩ := hl; Heap.lt_size ho
  have hlt : l ≠ s.heap.objs.size := Nat.ne_of_lt hll
  have h0 : ∀ b o, s.heap.get? b = some o → b ≠ s.heap.objs.size := fun b o e => Nat.ne_of_lt (Heap.lt_size e)
  unfold unpackItems notIterableAtAll
  refine wpAny_bind (wpAny_bind (wpAny_specialOf hl.typeIs slot_list_iter.lookup (wpAny_pure ?_)))
  rw [if_neg (by simp)]
  refine wpAny_bind (wpAny_holding (wpAny_pyIter_list hl ?_))
  refine wpAny_bind (wpAny_holding (PySem.W.kun_draw hlt i 0 _ _ ⟨_, Heap.get?_push_size _ rfl, rfl, rfl⟩ (hl.push _) (by omega) fun h1 hit hs => ?_))
  have hl1 : h1.IsList l items := (hl.push _).extBut hs.extBut hlt
  rw [Nat.zero_add] at hit
  obtain ⟨oi, hoi, _⟩ := id hit
  obtain ⟨ol, hol, _⟩ := id hl1
  have ht : (items.toList.take i).length = i := by rw [List.length_take, Array.length_toList]; omega
  rw [List.drop_zero, if_neg (by rw [ht]; omega)]
  refine wpAny_bind (wpAny_holding (PySem.W.kun_collect (s := { s with heap := h1 }) (.inr (.inr (.inl rfl))) (Walks.list (A := A.in1) hh s.heap.objs.size l hlt items) (fun _ _ st => st.1.typeIs) hi ⟨hit, hl1⟩ (Heap.lt_size hoi) (Heap.lt_size hol) (fun h2 tk hk => ?_) hz))
  have e0 : i + 1 - 1 - i = 0 := by omega
  simp only [e0, Nat.sub_zero, Nat.not_lt_zero, if_false, List.take_length, List.drop_length, List.append_nil]
  refine wpAny_bind (wpAny_newList (wpAny_pure ?_) (by rw [List.length_drop, Array.length_toList]; omega))
  exact h h2 tk fun b o e => hk b o (h0 b o e) (hs.extBut b o (h0 b o e) (Heap.get?_push_of_some _ e))
theorem star_tuple {l : Addr} {items : Array Value} {i : Nat} {Q : List Value → Shared → Prop} (hl : IsTup s.heap l items) (hh : A.handled = none) (hi : i ≤ items.size) (hz : items.size ≤ sizeLine)
    (h : ∀ (h' : Heap) (tk : Nat), (∀ b o, s.heap.get? b = some o → h'.get? b = some o) → Q (items.toList.take i ++ [.ref h'.objs.size]) { s with heap := h'.push { cls := .type "list", data := .seq (items.toList.drop i).toArray }, toks := tk }) :
    wpAny (model prog w) A (unpackItems (.ref l) (i + 1) (some i)) Q E s := by
  have hll : l < s.heap.objs.size := let ⟨_, ho, _⟩ := hl; Heap.lt_size ho
  have hlt : l ≠ s.heap.objs.size := Nat.ne_of_lt hll
  have h0 : ∀ b o, s.heap.get? b = some o → b ≠ s.heap.objs.size := fun b o e => Nat.ne_of_lt (Heap.lt_size e)
  unfold unpackItems notIterableAtAll
  refine wpAny_bind (wpAny_bind (wpAny_specialOf hl.typeIs slot_tuple_iter.lookup (wpAny_pure ?_)))
  rw [if_neg (by simp)]
  refine wpAny_bind (wpAny_holding (iter_tuple hl ?_))
  refine wpAny_bind (wpAny_holding (draw_tuple hlt i 0 _ _ ⟨_, Heap.get?_push_size _ rfl, rfl, rfl⟩ (hl.push _) (by omega) fun h1 hit hs => ?_))
  have hl1 : IsTup h1 l items := (hl.push _).extBut hs.extBut hlt
  rw [Nat.zero_add] at hit
  obtain ⟨oi, hoi, _⟩ := id hit
  obtain ⟨ol, hol, _⟩ := id hl1
  have ht : (items.toList.take i).length = i := by rw [List.length_take, Array.length_toList]; omega
  rw [List.drop_zero, if_neg (by rw [ht]; omega)]
  refine wpAny_bind (wpAny_holding (PySem.W.kun_collect (s := { s with heap := h1 }) (.inr (.inr (.inr rfl))) (Walks.tuple (A := A.in1) hh s.heap.objs.size l hlt items) (fun _ _ st => st.1.typeIs) hi ⟨hit, hl1⟩ (Heap.lt_size hoi) (Heap.lt_size hol) (fun h2 tk hk => ?_) hz))
  have e0 : i + 1 - 1 - i = 0 := by omega
  simp only [e0, Nat.sub_zero, Nat.not_lt_zero, if_false, List.take_length, List.drop_length, List.append_nil]
  refine wpAny_bind (wpAny_newList (wpAny_pure ?_) (by rw [List.length_drop, Array.length_toList]; omega))
  exact h h2 tk fun b o e => hk b o (h0 b o e) (hs.extBut b o (h0 b o e) (Heap.get?_push_of_some _ e))
end
end Bw
end

set_option Elab.async false
set_option linter.all false
set_option maxRecDepth 100000
set_option maxHeartbeats 4000000
noncomputable section
namespace Bw
open PySem L2 PySem.Spec PyProof.Rows

section
variable {X : Cx} {k : Nat} {C : Cf} {R : EvK}
theorem each_plain {env : Env} : ∀ {es : List Expr}, es.all noStar = true → assignEach es env = es.map fun e => (false, assign e env)
  | [], _ => rfl
  | e :: es, h => by
    rw [List.all_cons, Bool.and_eq_true] at h
    have ih := each_plain (env := env) h.2
    have e1 : assignEach (e :: es) env = (false, assign e env) :: assignEach es env := by cases e <;> first | rfl | cases h.1
    rw [e1, ih]
    rfl
theorem each_star {env : Env} : ∀ {es pre : List Expr} {t : Expr}, splitStar es = some (pre, t) → assignEach es env = (pre.map fun e => (false, assign e env)) ++ [(true, assign t env)] ∧ pre.all noStar = true
  | [], _, _, h => by cases h
  | [.Starred t' p], pre, t, h => by
    cases (show some ([], t') = some (pre, t) from h)
    exact ⟨rfl, rfl⟩
  | e :: e2 :: es, pre, t, h => by
    have hs : splitStar (e :: e2 :: es) = (if noStar e then (splitStar (e2 :: es)).map fun r => (e :: r.1, r.2) else none) := by cases e <;> rfl
    rw [hs] at h
    by_cases he : noStar e = true
    · rw [if_pos he] at h
      cases q : splitStar (e2 :: es) with
      | none => rw [q] at h; cases h
      | some r =>
        rw [q] at h
        cases h
        obtain ⟨h1, h2⟩ := each_star (env := env) (pre := r.1) (t := r.2) q
        have e1 : assignEach (e :: e2 :: es) env = (false, assign e env) :: assignEach (e2 :: es) env := by cases e <;> first | rfl | cases he
        rw [e1, h1]
        exact ⟨rfl, by rw [List.all_cons, he, h2]; rfl⟩
    · rw [if_neg he] at h
      cases h
  | [.BoolOp ..], _, _, h => by cases h
  | [.NamedExpr ..], _, _, h => by cases h
  | [.BinOp ..], _, _, h => by cases h
  | [.UnaryOp ..], _, _, h => by cases h
  | [.Lambda ..], _, _, h => by cases h
  | [.IfExp ..], _, _, h => by cases h
  | [.Dict ..], _, _, h => by cases h
  | [.Set ..], _, _, h => by cases h
  | [.ListComp ..], _, _, h => by cases h
  | [.SetComp ..], _, _, h => by cases h
  | [.DictComp ..], _, _, h => by cases h
  | [.GeneratorExp ..], _, _, h => by cases h
  | [.Await ..], _, _, h => by cases h
  | [.Yield ..], _, _, h => by cases h
  | [.YieldFrom ..], _, _, h => by cases h
  | [.Compare ..], _, _, h => by cases h
  | [.Call ..], _, _, h => by cases h
  | [.FormattedValue ..], _, _, h => by cases h
  | [.JoinedStr ..], _, _, h => by cases h
  | [.Constant ..], _, _, h => by cases h
  | [.Attribute ..], _, _, h => by cases h
  | [.Subscript ..], _, _, h => by cases h
  | [.Name ..], _, _, h => by cases h
  | [.List ..], _, _, h => by cases h
  | [.Tuple ..], _, _, h => by cases h
  | [.Slice ..], _, _, h => by cases h
/-- several targets one behind another, and more behind them -/
theorem asgs_run (sn : ∀ tg, SndA C X tg (R.asg tg)) : ∀ (es : List Expr) (ds : List D) (s s' : S), asgs R.asg es ds s = .ok () s' → es.length = ds.length ∧ ∀ (F : Fx) (I H : Hp) (σ : L2.St) (vs : List V), Rel X.K F I H σ s → DtAll X.K I vs ds →
    ∀ (ts : List (Value → Sem Unit)) (us ws : List Value) (pins : List (Addr × Obj)) (sh : Shared) (Qf : Unit → Shared → Prop), Inv X pins σ H sh → Vals vs us →
      (∀ (I' H' : Hp) (σ' : L2.St) (sh' : Shared), Inv X pins σ' H' sh' → Same I I' → Rel X.K F I' H' σ' s' → σ'.length = σ.length → (∀ own m, es.all (tgIn C own m) = true → ∀ (j : Nat), j ∉ own → σ'[j]? = σ[j]?) → wpAny (model X.prog X.w) X.A (assignInOrder ts ws) Qf X.xe sh') →
      wpAny (model X.prog X.w) X.A (assignInOrder ((es.map fun e => assign e X.env) ++ ts) (us ++ ws)) Qf X.xe sh
  | [], [], s, s', hm => by
    obtain ⟨_, rfl⟩ := ret_ok (show ret () s = .ok () s' from hm)
    refine ⟨rfl, fun F I H σ vs Rl hd ts us ws pins sh Qf inv rv h => ?_⟩
    cases hd
    cases rv
    exact h I H σ sh inv (Same.refl I) Rl rfl fun _ _ _ _ _ => rfl
  | e :: es, d :: ds, s, s', hm => by
    obtain ⟨⟨⟩, s1, h1, h2⟩ := bnd_ok (show bnd (R.asg e d) (fun _ => asgs R.asg es ds) s = .ok () s' from hm)
    obtain ⟨hl, ih⟩ := asgs_run sn es ds s1 s' h2
    refine ⟨by rw [List.length_cons, List.length_cons, hl], fun F I H σ vs Rl hd ts us ws pins sh Qf inv rv h => ?_⟩
    cases hd with | @cons v vs _ _ d1 d2 =>
    cases rv with | @cons _ u _ us r1 r2 =>
    refine assignInOrder_cons (thn (sn e d s s1 h1 F I H σ v (fun σ1 H1 => ∃ I1, Same I I1 ∧ Rel X.K F I1 H1 σ1 s1 ∧ σ1.length = σ.length ∧ ∀ own m, tgIn C own m e = true → ∀ (j : Nat), j ∉ own → σ1[j]? = σ[j]?) Rl d1 (fun I1 H1 σ1 a b c e => ⟨I1, a, b, c, e⟩) pins sh u inv r1) fun _ sh1 ⟨σ1, H1, inv1, I1, i1, R1, l1, k1⟩ => ?_)
    refine ih F I1 H1 σ1 vs R1 (dps_mono i1 ds d2) ts us ws pins sh1 Qf inv1 r2 fun I2 H2 σ2 sh2 inv2 i2 R2 l2 k2 => ?_
    refine h I2 H2 σ2 sh2 inv2 (i1.trans i2) R2 (l2.trans l1) fun own m ho j hj => ?_
    rw [List.all_cons, Bool.and_eq_true] at ho
    exact (k2 own m ho.2 j hj).trans (k1 own m ho.1 j hj)
  | [], _ :: _, s, s', hm => by cases hm
  | _ :: _, [], s, s', hm => by cases hm
theorem find_none : ∀ {l : List Expr} {env : Env}, (l.map fun e => (false, assign e env)).findIdx? (·.1) = none
  | [], _ => rfl
  | e :: l, env => by
    rw [List.map_cons, List.findIdx?_cons]
    simp
theorem find_star : ∀ {l : List Expr} {t : Value → Sem Unit} {env : Env}, ((l.map fun e => (false, assign e env)) ++ [(true, t)]).findIdx? (·.1) = some l.length
  | [], _, _ => rfl
  | e :: l, t, env => by
    rw [List.map_cons, List.cons_append, List.findIdx?_cons]
    simp [find_star (l := l) (t := t) (env := env)]
def EvGs (X : Cx) (es : List Expr) : TGs := fun vs σ H Q => ∀ (pins : List (Addr × Obj)) (s : Shared) (us : List Value), Inv X pins σ H s → Vals vs us → wpAny (model X.prog X.w) X.A (assignInOrder ((assignEach es X.env).map (·.2)) us) (fun _ s' => ∃ σ' H', Inv X pins σ' H' s' ∧ Q σ' H') X.xe s
theorem pgs_w (es : List Expr) : PGs X es (EvGs X es) := ⟨fun pins s _ _ _ us _ I r h => h pins s us I r⟩
theorem splitStar_len : ∀ {es pre : List Expr} {t : Expr}, splitStar es = some (pre, t) → es.length = pre.length + 1 := fun {es pre t} h => by
  have q := (each_star (env := default) h).1
  have e1 : ∀ (l : List Expr) (env : Env), (assignEach l env).length = l.length := fun l env => by
    induction l with
    | nil => rfl
    | cons a l ih => cases a <;> (show _ + 1 = _ + 1; rw [ih])
  have := congrArg List.length q
  rw [e1] at this
  simpa using this
theorem split_in {own : List Nat} {m : Nat} : ∀ {es pre : List Expr} {t : Expr}, splitStar es = some (pre, t) → es.all (tgIn C own (m + 1)) = true → pre.all (tgIn C own (m + 1)) = true ∧ tgIn C own m t = true
  | [], _, _, h, _ => by cases h
  | [.Starred t' p], pre, t, h, ho => by
    cases (show some ([], t') = some (pre, t) from h)
    refine ⟨rfl, ?_⟩
    rw [List.all_cons, Bool.and_eq_true] at ho
    exact ho.1
  | e :: e2 :: es, pre, t, h, ho => by
    have hs : splitStar (e :: e2 :: es) = (if noStar e then (splitStar (e2 :: es)).map fun r => (e :: r.1, r.2) else none) := by cases e <;> rfl
    rw [hs] at h
    rw [List.all_cons, Bool.and_eq_true] at ho
    by_cases he : noStar e = true
    · rw [if_pos he] at h
      cases q : splitStar (e2 :: es) with
      | none => rw [q] at h; cases h
      | some r =>
        rw [q] at h
        cases h
        obtain ⟨h1, h2⟩ := split_in (pre := r.1) (t := r.2) q ho.2
        exact ⟨by rw [List.all_cons, ho.1, h1]; rfl, h2⟩
    · rw [if_neg he] at h
      cases h
  | [.BoolOp ..], _, _, h, _ => by cases h
  | [.NamedExpr ..], _, _, h, _ => by cases h
  | [.BinOp ..], _, _, h, _ => by cases h
  | [.UnaryOp ..], _, _, h, _ => by cases h
  | [.Lambda ..], _, _, h, _ => by cases h
  | [.IfExp ..], _, _, h, _ => by cases h
  | [.Dict ..], _, _, h, _ => by cases h
  | [.Set ..], _, _, h, _ => by cases h
  | [.ListComp ..], _, _, h, _ => by cases h
  | [.SetComp ..], _, _, h, _ => by cases h
  | [.DictComp ..], _, _, h, _ => by cases h
  | [.GeneratorExp ..], _, _, h, _ => by cases h
  | [.Await ..], _, _, h, _ => by cases h
  | [.Yield ..], _, _, h, _ => by cases h
  | [.YieldFrom ..], _, _, h, _ => by cases h
  | [.Compare ..], _, _, h, _ => by cases h
  | [.Call ..], _, _, h, _ => by cases h
  | [.FormattedValue ..], _, _, h, _ => by cases h
  | [.JoinedStr ..], _, _, h, _ => by cases h
  | [.Constant ..], _, _, h, _ => by cases h
  | [.Attribute ..], _, _, h, _ => by cases h
  | [.Subscript ..], _, _, h, _ => by cases h
  | [.Name ..], _, _, h, _ => by cases h
  | [.List ..], _, _, h, _ => by cases h
  | [.Tuple ..], _, _, h, _ => by cases h
  | [.Slice ..], _, _, h, _ => by cases h
theorem tgIn_mono {own : List Nat} : ∀ {m : Nat} {e : Expr}, tgIn C own m e = true → tgIn C own (m + 1) e = true
  | 0, _, h => by cases h
  | m + 1, e, h => by
    cases e with
    | Name x p => exact h
    | Tuple es a b =>
      have h' : es.all (tgIn C own m) = true := h
      show es.all (tgIn C own (m + 1)) = true
      exact List.all_eq_true.mpr fun x hx => tgIn_mono (List.all_eq_true.mp h' x hx)
    | Starred e p => exact tgIn_mono (m := m) (e := e) h
    | _ => cases h
/-- data in a list that was handed on, of either kind -/
theorem snd_asgT (cx : CtxOk k C X) (sn : ∀ tg, SndA C X tg (R.asg tg)) {es : List Expr} {kk : Nat} {pos : Pos} {d : D} {ds : List D} (hs : es.all noStar = true) (hd : d = .tuple ds ∨ d = .list ds) {s s' : S} (hm : asgs R.asg es ds s = .ok () s') :
    ∀ (F : Fx) (I H : Hp) (σ : L2.St) (v : V) (Q : L2.St → Hp → Prop), Rel X.K F I H σ s → Dt X.K I v d →
      (∀ I' H' σ', Same I I' → Rel X.K F I' H' σ' s' → σ'.length = σ.length → (∀ own m, es.all (tgIn C own m) = true → ∀ (j : Nat), j ∉ own → σ'[j]? = σ[j]?) → Q σ' H') → EvG X (.Tuple es kk pos) v σ H Q := by
  intro F I H σ v Q Rl dv q
  obtain ⟨hl, go⟩ := asgs_run sn es ds s s' hm
  have hlen : (assignEach es X.env).length = ds.length := by rw [each_plain hs, List.length_map, hl]
  have hst : (assignEach es X.env).findIdx? (·.1) = none := by rw [each_plain hs]; exact find_none
  have run : ∀ vs, DtAll X.K I vs ds → EvGs X es vs σ H Q := fun vs hv pins sh us inv rv => by
    rw [each_plain hs, List.map_map]
    have := go F I H σ vs Rl hv [] us [] pins sh (fun _ s' => ∃ σ' H', Inv X pins σ' H' s' ∧ Q σ' H') inv rv fun I' H' σ' sh' inv' i1 R1 l1 k1 => assignInOrder_nil ⟨σ', H', inv', q I' H' σ' i1 R1 l1 k1⟩
    rw [List.append_nil, List.append_nil] at this
    exact this
  rcases hd with rfl | rfl
  · cases dv with | @tup a vs _ h1 h2 =>
    exact ofPG (pg_tup cx.calm (pgs_w es) hlen hst) ⟨a, vs, rfl, sqT_mono Rl.le h1, dps_len h2, run vs h2⟩
  · cases dv with | @lst a vs _ h1 h2 =>
    exact ofPG (pg_lst cx.calm (pgs_w es) hlen hst) ⟨a, vs, rfl, Rl.le.seq h1, dps_len h2, run vs h2⟩
theorem drop_take_map {α : Type} (us : List α) (i : Nat) : us.toArray.toList.take i = us.take i := by simp
theorem snd_asgStar (cx : CtxOk k C X) (sn : ∀ tg, SndA C X tg (R.asg tg)) {es pre : List Expr} {t : Expr} {kk : Nat} {pos : Pos} {d : D} {ds : List D} (hs : splitStar es = some (pre, t)) (hd : seqD d = some ds) (hle : pre.length ≤ ds.length) {s s' : S}
    (hm : bnd (asgs R.asg pre (ds.take pre.length)) (fun _ => R.asg t (.list (ds.drop pre.length))) s = .ok () s') :
    ∀ (F : Fx) (I H : Hp) (σ : L2.St) (v : V) (Q : L2.St → Hp → Prop), Rel X.K F I H σ s → Dt X.K I v d →
      (∀ I' H' σ', Same I I' → Rel X.K F I' H' σ' s' → σ'.length = σ.length → (∀ own m, (pre.all (tgIn C own (m + 1)) = true ∧ tgIn C own m t = true) → ∀ (j : Nat), j ∉ own → σ'[j]? = σ[j]?) → Q σ' H') → EvG X (.Tuple es kk pos) v σ H Q := by
  intro F I H σ v Q Rl dv q pins sh u inv ru
  obtain ⟨⟨⟩, s1, h1, h2⟩ := bnd_ok hm
  obtain ⟨e1, e2⟩ := each_star (env := X.env) hs
  obtain ⟨hl, go⟩ := asgs_run sn pre _ s s1 h1
  rw [PyProof.Rows.assign_Tuple]
  refine wpAny_bind (wpAny_standAt ?_)
  unfold unpack
  rw [e1, find_star]
  have hn : ((pre.map fun e => (false, assign e X.env)) ++ [(true, assign t X.env)]).length = pre.length + 1 := by simp
  rw [hn]
  -- what comes behind the unpacking
  have fin : ∀ (vs : List V) (its : List Value), DtAll X.K I vs ds → Vals vs its → vs.length ≤ sizeLine → ∀ (h' : Heap) (tk : Nat), (∀ b o, sh.heap.get? b = some o → h'.get? b = some o) →
      wpAny (model X.prog X.w) X.A (assignInOrder (((pre.map fun e => (false, assign e X.env)) ++ [(true, assign t X.env)]).map (·.2)) (its.take pre.length ++ [.ref h'.objs.size])) (fun _ s' => ∃ σ' H', Inv X pins σ' H' s' ∧ Q σ' H') X.xe
        { sh with heap := h'.push { cls := .type "list", data := .seq (its.drop pre.length).toArray }, toks := tk } := fun vs its hv rv hz h' tk hk => by
    have inv1 : Inv X pins σ H { sh with heap := h', toks := tk } := inv.kept hk
    have hfree : H h'.objs.size = none := inv1.hok.fresh (Nat.le_refl _)
    have hdv : DtAll X.K I (vs.drop pre.length) (ds.drop pre.length) := dps_drop _ hv
    have inv2 : Inv X pins σ (upd H h'.objs.size (.lst (vs.drop pre.length))) { sh with heap := h'.push { cls := .type "list", data := .seq (its.drop pre.length).toArray }, toks := tk } :=
      Inv.lnew (s := { sh with heap := h', toks := tk }) (t' := tk) inv1 (rv.drop pre.length) (by rw [List.length_drop]; omega)
    obtain ⟨sI, R2, dl⟩ := lay_lst Rl hfree hdv
    rw [List.map_append, List.map_map]
    refine go F _ _ σ (vs.take pre.length) R2 (dps_mono sI _ (dps_take _ hv)) [assign t X.env] (its.take pre.length) [.ref h'.objs.size] pins _ _ inv2 (rv.take _) fun I3 H3 σ3 sh3 inv3 i3 R3 l3 k3 => ?_
    refine assignInOrder_cons (thn (sn t _ s1 s' h2 F I3 H3 σ3 (.ref h'.objs.size) Q R3 (dp_mono i3 _ dl) (fun I4 H4 σ4 i4 R4 l4 k4 => ?_) pins sh3 _ inv3 rfl) fun _ sh4 hh => assignInOrder_nil hh)
    exact q I4 H4 σ4 (sI.trans (i3.trans i4)) R4 (l4.trans l3) fun own m ho j hj => (k4 own m ho.2 j hj).trans (k3 own (m + 1) ho.1 j hj)
  cases dv with
  | @lst a vs _ g1 g2 =>
    cases hd
    cases ru
    obtain ⟨its, rv, pl, hz⟩ := inv.list (Rl.le.seq g1)
    have hsz : pre.length ≤ its.toArray.size := by rw [List.size_toArray, ← rv.length, dps_len g2]; exact hle
    refine wpAny_bind (wpAny_holding (star_list pl.isList (inv.ok.hd cx.calm) hsz (by rw [List.size_toArray, ← rv.length]; exact hz) fun h' tk hk => ?_))
    exact fin vs its g2 rv hz h' tk hk
  | @tup a vs _ g1 g2 =>
    cases hd
    cases ru
    obtain ⟨its, rv, pl, hz⟩ := inv.tuple (sqT_mono Rl.le g1)
    have hsz : pre.length ≤ its.toArray.size := by rw [List.size_toArray, ← rv.length, dps_len g2]; exact hle
    refine wpAny_bind (wpAny_holding (star_tuple pl (inv.ok.hd cx.calm) hsz (by rw [List.size_toArray, ← rv.length]; exact hz) fun h' tk hk => ?_))
    exact fin vs its g2 rv hz h' tk hk
  | _ => cases hd
end
end Bw
end

set_option Elab.async false
set_option linter.all false
set_option maxRecDepth 100000
set_option maxHeartbeats 4000000
noncomputable section
namespace Bw
open PySem L2 PySem.Spec

section
variable {K : PySem.W.Frag} {F : Fx} {I I' H H' : Hp} {σ : St} {s : S}
theorem chL_at {j : Nat} {f : List D → Option (D × List D)} {r : D} {s' : S} (hm : chL j f s = .ok r s') (Rl : Rel K F I H σ s) : ∃ (a : Addr) (vs : List V) (ds es : List D), σ[j]? = some (some (V.ref a)) ∧ H a = some (.lst vs) ∧ DtAll K I vs ds ∧ f ds = some (r, es) ∧
    ∀ ws, DtAll K I ws es → Rel K F I (upd H a (.lst ws)) σ s' := by
  unfold chL at hm
  cases hg : getL j s with
  | none => simp only [hg] at hm; cases hm
  | some ds =>
    simp only [hg] at hm
    cases hf : f ds with
    | none => simp only [hf] at hm; cases hm
    | some re =>
      obtain ⟨r', es⟩ := re
      simp only [hf] at hm
      cases hm
      unfold getL at hg
      split at hg
      · rename_i ds' e
        cases hg
        obtain ⟨a, vs, h1, h2, h3, h4, h5, h6⟩ := Rl.own j ds e
        refine ⟨a, vs, ds, es, h1, h5, h6, hf, fun ws hw => ?_⟩
        have := Rl.wrO e h1 hw
        unfold putL
        simp only [e]
        exact this
      · rename_i m e
        obtain ⟨a, h1, h2⟩ := Rl.bor j m e
        obtain ⟨vs, ds', h3, h4, h5, h6⟩ := Rl.bs m a h2
        rw [hg] at h3
        cases h3
        refine ⟨a, vs, ds, es, h1, h5, h6, hf, fun ws hw => ?_⟩
        have := Rl.wrB h2 hw
        unfold putL
        simp only [e]
        exact this
      · cases hg
/-- a new list that no slot holds is rewritten -/
theorem Rel.wrN (R : Rel K F I H σ s) {p : Addr} {o : HO} (hI : I p = none) (h0 : F.H0 p = none) (hb : p ∉ F.bs) (hn : ∀ (i : Nat) (ds : List D), s.g[i]? = some (Sl.own ds) → σ[i]? ≠ some (some (V.ref p))) : Rel K F I (upd H p o) σ s := by
  refine ⟨same_upd2 R.le hI, R.le0, fun a u hba q => ?_, R.new, R.dat, fun i ds e => ?_, R.ownd, R.bor, fun n a e => ?_, R.nd, R.len, R.blen⟩
  · rw [upd_ne (ne_of_none q h0)]; exact R.keep a u hba q
  · obtain ⟨a, vs, h1, h2, h3, h4, h5, h6⟩ := R.own i ds e
    have hne : a ≠ p := fun z => hn i ds e (by rw [h1, z])
    exact ⟨a, vs, h1, h2, h3, h4, by rw [upd_ne hne]; exact h5, h6⟩
  · obtain ⟨vs, ds, h1, h2, h3, h4⟩ := R.bs n a e
    have hne : a ≠ p := fun z => hb (by rw [← z]; exact List.mem_of_getElem? e)
    exact ⟨vs, ds, h1, h2, by rw [upd_ne hne]; exact h3, h4⟩
theorem Rel.wipe (R : Rel K F I H σ s) : ∀ vs : List Nat, Rel K F I H (L2.wipe σ vs) { s with g := wipeG s.g vs }
  | [] => R
  | v :: vs => by
    have := (Rel.wipe R vs).setU v none
    exact this
theorem backG_len (g0 g : List Sl) : ∀ vs : List Nat, (backG g0 g vs).length = g.length
  | [] => rfl
  | v :: vs => by
    unfold backG
    split
    · rw [List.length_set]; exact backG_len g0 g vs
    · exact backG_len g0 g vs
theorem backG_get {g0 g : List Sl} {j : Nat} {y : Sl} : ∀ {vs : List Nat}, (∀ v ∈ vs, v < g0.length) → (backG g0 g vs)[j]? = some y → (j ∈ vs ∧ g0[j]? = some y) ∨ (j ∉ vs ∧ g[j]? = some y)
  | [], _, h => .inr ⟨by simp, h⟩
  | v :: vs, hv, h => by
    have h0 : v < g0.length := hv v (by simp)
    have e0 : g0[v]? = some g0[v] := List.getElem?_eq_getElem h0
    unfold backG at h
    simp only [e0] at h
    rcases gset h with ⟨rfl, e⟩ | ⟨hne, e⟩
    · subst e
      exact .inl ⟨by simp, e0⟩
    · rcases backG_get (vs := vs) (fun u hu => hv u (by simp [hu])) e with ⟨a, b⟩ | ⟨a, b⟩
      · exact .inl ⟨by simp [a], b⟩
      · exact .inr ⟨by simp only [List.mem_cons, not_or]; exact ⟨fun z => hne z.symm, a⟩, b⟩
/-- behind a comprehension: the slots that its own names hid are as they were -/
theorem Rel.back {s2 : S} {vs : List Nat} {I1 H1 : Hp} (R0 : Rel K F I1 H1 σ s) (R : Rel K F I H (L2.wipe σ vs) s2) (i1 : Same I1 I) (hno : noOwn s.g vs = true) (hv : ∀ v ∈ vs, v < s.g.length) : Rel K F I H σ { s2 with g := backG s.g s2.g vs } := by
  have no : ∀ (j : Nat) (ds : List D), j ∈ vs → s.g[j]? ≠ some (Sl.own ds) := fun j ds hj e => by
    have := List.all_eq_true.mp hno j hj
    simp only [e] at this
    cases this
  have out : ∀ (j : Nat), j ∉ vs → (L2.wipe σ vs)[j]? = σ[j]? := fun j hj => wipe_out hj
  refine ⟨R.le, R.le0, R.keep, R.new, fun j d e => ?_, fun j ds e => ?_, fun j l a ds es hjl e1 e2 e3 => ?_, fun j n e => ?_, R.bs, R.nd, ?_, R.blen⟩
  · rcases backG_get hv e with ⟨hj, e⟩ | ⟨hj, e⟩
    · obtain ⟨v, h1, h2⟩ := R0.dat j d e
      exact ⟨v, h1, dp_mono i1 d h2⟩
    · obtain ⟨v, h1, h2⟩ := R.dat j d e
      exact ⟨v, by rw [← out j hj]; exact h1, h2⟩
  · rcases backG_get hv e with ⟨hj, e⟩ | ⟨hj, e⟩
    · exact absurd e (no j ds hj)
    · obtain ⟨a, ws, h1, h2⟩ := R.own j ds e
      exact ⟨a, ws, by rw [← out j hj]; exact h1, h2⟩
  · rcases backG_get hv e1 with ⟨hj, e1⟩ | ⟨hj, e1⟩
    · exact absurd e1 (no j ds hj)
    rcases backG_get hv e2 with ⟨hl, e2⟩ | ⟨hl, e2⟩
    · exact absurd e2 (no l es hl)
    rw [← out j hj] at e3
    rw [← out l hl]
    exact R.ownd j l a ds es hjl e1 e2 e3
  · rcases backG_get hv e with ⟨hj, e⟩ | ⟨hj, e⟩
    · exact R0.bor j n e
    · obtain ⟨a, h1, h2⟩ := R.bor j n e
      exact ⟨a, by rw [← out j hj]; exact h1, h2⟩
  · show (backG s.g s2.g vs).length = σ.length
    rw [backG_len, R.len, wipe_length]
theorem wipe_eq {σ σ' : St} (hl : σ'.length = σ.length) : ∀ {vs : List Nat}, (∀ (j : Nat), j ∉ vs → σ'[j]? = σ[j]?) → L2.wipe σ' vs = L2.wipe σ vs := fun {vs} h => by
  apply List.ext_getElem?
  intro j
  by_cases hj : j ∈ vs
  · have : ∀ {τ : St}, τ.length = σ.length → ∀ {us : List Nat}, j ∈ us → (L2.wipe τ us)[j]? = if j < σ.length then some none else none := fun {τ} ht {us} hm => by
      induction us with
      | nil => cases hm
      | cons u us ih =>
        unfold L2.wipe
        by_cases e : u = j
        · subst e
          by_cases hlt : u < σ.length
          · rw [List.getElem?_set_self (by rw [wipe_length, ht]; exact hlt), if_pos hlt]
          · rw [if_neg hlt, List.getElem?_eq_none (by rw [List.length_set, wipe_length, ht]; omega)]
        · rw [List.getElem?_set_ne e]
          exact ih (by rcases List.mem_cons.mp hm with z | z; exact absurd z.symm e; exact z)
    rw [this hl hj, this rfl hj]
  · rw [wipe_out hj, wipe_out hj]
    exact h j hj
end

section
variable {X : Cx} {k : Nat} {C : Cf} {R : EvK}
theorem snd_stepA {RC : Cf → EvK} (cx : CtxOk k C X) (sn : Snd C X (RC C)) (tg : Expr) : SndA C X tg (stepA RC C tg) := by
  intro d s s' hm F I H σ v Q Rl dv q
  cases tg with
  | Name x p =>
    unfold stepA at hm
    cases hi : locOf C x with
    | none => simp only [hi] at hm; cases hm
    | some i =>
      simp only [hi] at hm
      cases (show Res.ok () { s with g := s.g.set i (.dat d) } = Res.ok () s' from hm)
      obtain ⟨h1, h2, h3⟩ := locOf_ok cx hi
      refine ofPG (pg_name (by rw [cx.N]; exact cx.nd) h1 h2 h3) ?_
      refine q I H _ (Same.refl I) (Rl.setD i dv) (by rw [List.length_set]) fun own m ho j hj => ?_
      cases m with
      | zero => cases ho
      | succ m =>
        have ho' : (match locOf C x with | some i => own.contains i | none => false) = true := ho
        simp only [hi] at ho'
        have hne : i ≠ j := fun z => hj (by rw [← z]; exact List.contains_iff_mem.mp ho')
        rw [List.getElem?_set_ne hne]
  | Tuple es kk pos =>
    unfold stepA at hm
    by_cases hs : es.all noStar = true
    · simp only [hs, if_true] at hm
      have fin : ∀ ds, (d = .tuple ds ∨ d = .list ds) → asgs (RC C).asg es ds s = .ok () s' → EvG X (.Tuple es kk pos) v σ H Q := fun ds hd hm =>
        snd_asgT cx sn.asg hs hd hm F I H σ v Q Rl dv fun I' H' σ' a b c e => q I' H' σ' a b c fun own m ho j hj => by
          cases m with
          | zero => cases ho
          | succ m => exact e own m ho j hj
      cases d <;> try (cases hm; done)
      · exact fin _ (.inr rfl) hm
      · exact fin _ (.inl rfl) hm
    · simp only [hs] at hm
      cases hq : splitStar es with
      | none => simp only [hq] at hm; cases hm
      | some r =>
        obtain ⟨pre, t⟩ := r
        cases hd : seqD d with
        | none => simp only [hq, hd] at hm; cases hm
        | some ds =>
          simp only [hq, hd] at hm
          by_cases hle : pre.length ≤ ds.length
          · simp only [hle, if_true] at hm
            refine snd_asgStar cx sn.asg hq hd hle hm F I H σ v Q Rl dv fun I' H' σ' a b c e => q I' H' σ' a b c fun own m ho j hj => ?_
            cases m with
            | zero => cases ho
            | succ m =>
              have ho' : es.all (tgIn C own m) = true := ho
              cases m with
              | zero =>
                cases es with
                | nil => cases hq
                | cons e es => rw [List.all_cons] at ho'; cases ho'
              | succ m => exact e own m (split_in hq ho') j hj
          · simp only [hle, if_false] at hm
            cases hm
  | Subscript a i pos =>
    cases a with
    | Name x p =>
      unfold stepA at hm
      by_cases hs : notSlice i = true
      · simp only [hs, if_true] at hm
        cases hj : slotOf C x with
        | none => simp only [hj] at hm; cases hm
        | some j =>
          simp only [hj] at hm
          obtain ⟨c0, s0, h0, hm2⟩ := bnd_ok hm
          obtain ⟨e0, v0, hv0, _⟩ := pkS_at h0 Rl
          subst e0
          obtain ⟨kd, s1, h1, h2⟩ := bnd_ok hm2
          obtain ⟨r, s2, h3, h4⟩ := bnd_ok h2
          obtain ⟨_, rfl⟩ := ret_ok h4
          refine ofPG (pg_sub (pe_slot cx hj) (pe_w i) set_list (by
            intro v
            cases i <;> first | rfl | cases hs)) ⟨v0, hv0, sn.e i s0 _ _ h1 F I H σ _ Rl fun u I1 H1 i1 R1 d1 => ?_⟩
          obtain ⟨a, vs, ds, es, g1, g2, g3, g4, g5⟩ := chL_at h3 R1
          rw [hv0] at g1
          cases g1
          cases kd <;> try (cases g4; done)
          rename_i z
          cases d1
          have g4' : (ixN ds.length z).map (fun m => (PyData.none, ds.set m d)) = some (r, es) := g4
          cases hx : ixN ds.length z with
          | none => rw [hx] at g4'; cases g4'
          | some m =>
            rw [hx] at g4'
            cases g4'
            refine ⟨a, vs, z, m, rfl, rfl, g2, by rw [dps_len g3]; exact hx, ?_⟩
            exact q I1 _ σ i1 (g5 _ (dps_set m g3 (dp_mono i1 d dv))) rfl fun _ _ _ _ _ => rfl
      · simp only [hs] at hm
        cases hm
    | _ => cases hm
  | _ => cases hm

/-! ### comprehensions -/
theorem ctx_blk (cx : CtxOk k C X) {scope : Scope} {own : List (Str × Nat)} (ok : BlkOk C.N C.sc scope own) (s0 : Shared) (H0 : Hp) (Ca : Addr) (cl : List (Str × Addr)) (fp : List Addr) : CtxOk k (blkCf C scope) (X.blk s0 H0 scope (compEnvC scope cl Ca X.env) fp) := by
  refine ⟨cx.N, ?_, ok.kind, cx.nd, cx.calm, cx.room, fun x h => h, cx.blt, cx.gl, cx.fns⟩
  show relS scope X.env.scope = relS scope C.sc
  rw [cx.sc]
theorem own_lt {N : List Str} {scope : Scope} {own : List (Str × Nat)} {sc : Scope} (ok : BlkOk N sc scope own) : ∀ v ∈ own.map (·.2), v < N.length := fun v hv => by
  obtain ⟨p, hp, rfl⟩ := List.mem_map.mp hv
  exact (List.getElem?_eq_some_iff.mp (ok.ix p hp)).1
theorem sndTs {X' : Cx} {C' : Cf} {R' : EvK} (sn : Snd C' X' R') {ifs : List Expr} : ∀ s b s', tests R' ifs s = .ok b s' → ∃ t, PTs X' ifs t ∧ ∀ (F : Fx) (I H : Hp) (σ : St) (Q : Bool → Hp → Prop), Rel X'.K F I H σ s → (∀ I' H', Same I I' → Rel X'.K F I' H' σ s' → Q b H') → t σ H Q := by
  intro s b s' hm
  match ifs, hm with
  | [], hm =>
    obtain ⟨rfl, rfl⟩ := ret_ok (show ret true s = .ok b s' from hm)
    exact ⟨_, pts_nil, fun F I H σ Q Rl q => q I H (Same.refl I) Rl⟩
  | [c], hm => exact ⟨_, pts_one (pt_w c), fun F I H σ Q Rl q => sn.t c s b s' hm F I H σ Q Rl q⟩
  | _ :: _ :: _, hm => cases hm
/-- the readings of a block's parts, whatever block it is -/
def BT (X' : Cx) (ifs : List Expr) : TT := fun σ H Q => ∀ (pins : List (Addr × Obj)) (s : Shared), Inv X' pins σ H s → wpAny (model X'.prog X'.w) X'.A (forIn ifs true fun c r => if r = true then do let ok ← isTrue c X'.env (eval c X'.env); pure (ForInStep.yield ok) else pure (ForInStep.yield r)) (TP X' pins σ Q) X'.xe s
theorem pts_w {X' : Cx} (ifs : List Expr) : PTs X' ifs (BT X' ifs) := ⟨fun pins s _ _ _ I h => h pins s I⟩
end
end Bw
end

set_option Elab.async false
set_option linter.all false
set_option maxRecDepth 100000
set_option maxHeartbeats 4000000
noncomputable section
namespace Bw
open PySem L2 PySem.Spec

section
variable {X : Cx} {k : Nat} {C : Cf}
theorem fold_of {iter : Expr} (h : notSet iter = true) (env : Env) : ∀ x, foldedSetIterable iter env x = pure x := fun x => by
  cases iter <;> first | rfl | cases h
/-- the readings of a block's parts, whatever block it is -/
def gB (X : Cx) (scope : Scope) (tg : Expr) : TG := fun v σ H Q => ∀ (s0 : Shared) (H0 : Hp) (Ca : Addr) (cl : List (Str × Addr)) (fp : List Addr), EvG (X.blk s0 H0 scope (compEnvC scope cl Ca X.env) fp) tg v σ H Q
def tB' (X : Cx) (scope : Scope) (ifs : List Expr) : TT := fun σ H Q => ∀ (s0 : Shared) (H0 : Hp) (Ca : Addr) (cl : List (Str × Addr)) (fp : List Addr), BT (X.blk s0 H0 scope (compEnvC scope cl Ca X.env) fp) ifs σ H Q
def eB (X : Cx) (scope : Scope) (elt : Expr) : TE := fun σ H Q => ∀ (s0 : Shared) (H0 : Hp) (Ca : Addr) (cl : List (Str × Addr)) (fp : List Addr), EvE (X.blk s0 H0 scope (compEnvC scope cl Ca X.env) fp) elt σ H Q
def compM (RC : Cf → EvK) (C : Cf) (elt tg iter : Expr) (ifs : List Expr) (scope : Scope) : S → Res (List D) := bnd ((RC C).it tg iter) fun ds s => if noOwn s.g ((ownOf C scope).map (·.2)) then
        (match compL ((ownOf C scope).map (·.2)) ((RC (blkCf C scope)).asg tg) (tests (RC (blkCf C scope)) ifs) ((RC (blkCf C scope)).e elt) ds [] { s with g := wipeG s.g ((ownOf C scope).map (·.2)) } with
        | .ok acc s' => .ok acc { s' with g := backG s.g s'.g ((ownOf C scope).map (·.2)) }
        | .exc _ _ => .bad
        | .bad => .bad) else .bad
theorem comp_reading {RC : Cf → EvK} (cx : CtxOk k C X) (sn : Snd C X (RC C)) {elt tg iter : Expr} {ifs : List Expr} {scope : Scope} (hblk : blkC C.N C.sc scope (ownOf C scope) = true) (htg : tgIn (blkCf C scope) ((ownOf C scope).map (·.2)) 6 tg = true)
    (snb : ∀ X' : Cx, CtxOk k (blkCf C scope) X' → Snd (blkCf C scope) X' (RC (blkCf C scope))) {s s' : S} {acc : List D} (hm : compM RC C elt tg iter ifs scope s = .ok acc s') {F : Fx} {I H : Hp} {σ : St} {Q : VK} (Rl : Rel X.K F I H σ s) (hσ : σ.length = C.N.length)
    (q : ∀ a I' H', Same I I' → Rel X.K F I' H' σ s' → Fresh X.K F I' H' σ s' a acc → Q (.ref a) H') : tLc (EvI X tg iter) (gB X scope tg) (tB' X scope ifs) (eB X scope elt) ((ownOf C scope).map (·.2)) σ H Q := by
  have ok : BlkOk C.N C.sc scope (ownOf C scope) := blkOk_by hblk
  unfold compM at hm
  generalize hown : (ownOf C scope).map (·.2) = own at htg hm ⊢
  obtain ⟨ds, s1, h1, h2⟩ := bnd_ok hm
  by_cases hno : noOwn s1.g own = true
  · rw [if_pos hno] at h2
    cases hc : compL own ((RC (blkCf C scope)).asg tg) (tests (RC (blkCf C scope)) ifs) ((RC (blkCf C scope)).e elt) ds [] { s1 with g := wipeG s1.g own } with
    | bad => rw [hc] at h2; cases h2
    | exc _ _ => rw [hc] at h2; cases h2
    | ok acc2 s2 =>
      rw [hc] at h2
      cases h2
      refine sn.it tg iter s ds s1 h1 F I H σ _ Rl fun J I1 H1 i1 R1 wk => ?_
      intro Dd hD
      have hD0 : F.H0 Dd = none := R1.fresh0 hD
      have hDb : Dd ∉ F.bs := R1.freshB hD
      have hlt : ∀ v ∈ own, v < s1.g.length := fun v hv => by
        rw [← hown] at hv
        rw [R1.len, hσ]
        exact own_lt ok v hv
      refine ⟨fun i m Hc => m = ds.length - i ∧ i ≤ ds.length ∧ ∃ (Ic : Hp) (accV : List V) (accD : List D) (sc : S), Same I1 Ic ∧ Rel X.K F Ic Hc (L2.wipe σ own) sc ∧ Ic Dd = none ∧ Hc Dd = some (.lst accV) ∧ DtAll X.K Ic accV accD ∧
        (∀ (j : Nat) (es : List D), sc.g[j]? = some (Sl.own es) → (L2.wipe σ own)[j]? ≠ some (some (V.ref Dd))) ∧
        compL own ((RC (blkCf C scope)).asg tg) (tests (RC (blkCf C scope)) ifs) ((RC (blkCf C scope)).e elt) (ds.drop i) accD sc = .ok acc s2, ⟨ds.length, by simp, Nat.zero_le _, ?_⟩, ?_⟩
      · have Rw := R1.wipe own
        obtain ⟨a1, a2⟩ := fresh_new Rw hD (K := X.K) (vs := []) (ds := []) .nil
        exact ⟨I1, [], [], _, Same.refl I1, a1, a2.hI, upd_same, .nil, a2.own, by rw [List.drop_zero]; exact hc⟩
      · rintro i m Hc ⟨rfl, hi, Ic, accV, accD, sc, i2, Rc, hID, hHD, hacc, hownD, hcc⟩
        obtain ⟨wgo, wstop⟩ := wk i Ic Hc i2 Rc.le
        by_cases hil : i < ds.length
        · have hdd : ds.drop i = ds[i] :: ds.drop (i + 1) := List.drop_eq_getElem_cons hil
          rw [hdd] at hcc
          obtain ⟨⟨⟩, sa, ha, hcc⟩ := bnd_ok (show bnd ((RC (blkCf C scope)).asg tg ds[i]) (fun _ => bnd (tests (RC (blkCf C scope)) ifs) fun b => if b then bnd ((RC (blkCf C scope)).e elt) fun d => if accD.length < sizeLine then (fun s => compL own ((RC (blkCf C scope)).asg tg) (tests (RC (blkCf C scope)) ifs) ((RC (blkCf C scope)).e elt) (ds.drop (i + 1)) (accD ++ [d]) { s with g := wipeG s.g own }) else fail
            else fun s => compL own ((RC (blkCf C scope)).asg tg) (tests (RC (blkCf C scope)) ifs) ((RC (blkCf C scope)).e elt) (ds.drop (i + 1)) accD { s with g := wipeG s.g own }) sc = .ok acc s2 from hcc)
          obtain ⟨b, sb, hb1, hb2⟩ := bnd_ok hcc
          obtain ⟨go, yld⟩ := wgo ds[i] (List.getElem?_eq_getElem hil)
          refine .inr ⟨go, _, fun H' hN => ⟨ds.length - (i + 1), by omega, rfl, hil, hN⟩, fun x H' y => ?_⟩
          obtain ⟨Iy, i3, Ry, dx, hHD', hIDy⟩ : ∃ Iy, Same Ic Iy ∧ Rel X.K F Iy H' (L2.wipe σ own) sc ∧ Dt X.K Iy x ds[i] ∧ H' Dd = some (.lst accV) ∧ Iy Dd = none := by
            rcases yld x H' y with ⟨rfl, dx⟩ | ⟨T, o, hT, rfl, dx⟩
            · exact ⟨Ic, Same.refl Ic, Rc, dx, hHD, hID⟩
            · have hne : Dd ≠ T := ne_of_none hHD hT
              exact ⟨_, same_new (Rc.freshI hT) o, Rc.lay hT, dx, by rw [upd_ne hne]; exact hHD, by rw [upd_ne hne]; exact hID⟩
          obtain ⟨F', eb, eI, RF, hkeep, back⟩ := Ry.frame
          have hD' : F'.H0 Dd = some (.lst accV) := hkeep Dd _ hHD' hDb hownD
          have hDI' : F'.I0 Dd = none := by rw [eI]; exact hIDy
          have hDb' : Dd ∉ F'.bs := by rw [eb]; exact hDb
          intro s0 H0 Ca cl fp
          refine (snb _ (ctx_blk cx ok s0 H0 Ca cl fp)).asg tg ds[i] sc sa ha F' Iy H' (L2.wipe σ own) x _ RF dx fun I3 H3 σ3 j3 R3 l3 k3 => ?_
          have hw : L2.wipe σ3 own = L2.wipe σ own := wipe_eq (by rw [l3, wipe_length]) fun j hj => by rw [k3 own 6 htg j hj, wipe_out hj]
          refine ⟨hw, ?_⟩
          intro s0 H0 Ca cl fp
          obtain ⟨t, pt, ht⟩ := sndTs (snb _ (ctx_blk cx ok s0 H0 Ca cl fp)) sa b sb hb1
          refine fun pins sh inv => pt.run pins sh σ3 H3 _ inv (ht F' I3 H3 σ3 _ R3 fun I4 H4 j4 R4 => ?_)
          -- what a turn leaves: the state is wiped, the new list stands
          have next : ∀ (I5 H5 : Hp) (s5 : S), Rel X.K F' I5 H5 σ3 s5 → I5 Dd = none ∧ Rel X.K F I5 H5 (L2.wipe σ own) { s5 with g := wipeG s5.g own } ∧ H5 Dd = some (.lst accV) ∧ (∀ (j : Nat) (es : List D), (wipeG s5.g own)[j]? = some (Sl.own es) → (L2.wipe σ own)[j]? ≠ some (some (V.ref Dd))) := fun I5 H5 s5 R5 => by
            have Rw := R5.wipe own
            rw [hw] at Rw
            refine ⟨R5.new Dd _ hD' hDI', back _ _ _ _ Rw, R5.keep Dd _ hDb' hD', fun j es e z => ?_⟩
            obtain ⟨a, ws, g1, g2, _⟩ := Rw.own j es e
            rw [z] at g1
            cases g1
            rw [hD'] at g2
            cases g2
          cases b with
          | true =>
            rw [if_pos rfl] at hb2 ⊢
            obtain ⟨dd, sd, hd1, hd2⟩ := bnd_ok hb2
            by_cases hz : accD.length < sizeLine
            · rw [if_pos hz] at hd2
              intro s0 H0 Ca cl fp
              refine (snb _ (ctx_blk cx ok s0 H0 Ca cl fp)).e elt sb dd sd hd1 F' I4 H4 σ3 _ R4 fun y I5 H5 j5 R5 dy => ?_
              obtain ⟨n1, n2, n3, n4⟩ := next I5 H5 sd R5
              refine ⟨accV, n3, by rw [dps_len hacc]; exact hz, I5, accV ++ [y], accD ++ [dd], _, i2.trans (i3.trans (j3.trans (j4.trans j5))), n2.wrN n1 hD0 hDb n4, n1, upd_same, ?_, n4, hd2⟩
              exact dps_append (dps_mono (i3.trans (j3.trans (j4.trans j5))) accD hacc) (.cons dy .nil)
            · rw [if_neg hz] at hd2
              cases hd2
          | false =>
            rw [if_neg Bool.false_ne_true] at hb2 ⊢
            obtain ⟨n1, n2, n3, n4⟩ := next I4 H4 sb R4
            exact ⟨I4, accV, accD, _, i2.trans (i3.trans (j3.trans j4)), n2, n1, n3, dps_mono (i3.trans (j3.trans j4)) accD hacc, n4, hb2⟩
        · have ei : i = ds.length := by omega
          subst ei
          rw [List.drop_length] at hcc
          cases (show Res.ok accD sc = Res.ok acc s2 from hcc)
          refine .inl ⟨wstop (Nat.le_refl _), q Dd Ic Hc (i1.trans i2) (R1.back Rc i2 hno hlt) ⟨hD0, hID, hDb, ⟨accV, hHD, hacc⟩, fun j es e => ?_⟩⟩
          rcases backG_get hlt e with ⟨hj, e⟩ | ⟨hj, e⟩
          · exfalso
            have := List.all_eq_true.mp hno j hj
            simp only [e] at this
            cases this
          · rw [← wipe_out (σ := σ) hj]
            exact hownD j es e
  · rw [if_neg hno] at h2
    cases h2
theorem gB_ok {scope : Scope} {tg : Expr} (s0 : Shared) (H0 : Hp) (Ca : Addr) (cl : List (Str × Addr)) (fp : List Addr) : PG (X.blk s0 H0 scope (compEnvC scope cl Ca X.env) fp) tg (gB X scope tg) := ⟨fun pins sh _ _ _ u _ I r h => h s0 H0 Ca cl fp pins sh u I r⟩
theorem tB_ok {scope : Scope} {ifs : List Expr} (s0 : Shared) (H0 : Hp) (Ca : Addr) (cl : List (Str × Addr)) (fp : List Addr) : PTs (X.blk s0 H0 scope (compEnvC scope cl Ca X.env) fp) ifs (tB' X scope ifs) := ⟨fun pins sh _ _ _ I h => h s0 H0 Ca cl fp pins sh I⟩
theorem eB_ok {scope : Scope} {elt : Expr} (s0 : Shared) (H0 : Hp) (Ca : Addr) (cl : List (Str × Addr)) (fp : List Addr) : PE (X.blk s0 H0 scope (compEnvC scope cl Ca X.env) fp) elt (eB X scope elt) := ⟨fun pins sh _ _ _ I h => h s0 H0 Ca cl fp pins sh I⟩
theorem blkX (cx : CtxOk k C X) {scope : Scope} (hblk : blkC C.N C.sc scope (ownOf C scope) = true) : BlkOk X.N X.env.scope scope (ownOf C scope) := by rw [cx.N, cx.sc]; exact blkOk_by hblk
theorem snd_comp {RC : Cf → EvK} (cx : CtxOk k C X) (sn : Snd C X (RC C)) {elt tg iter : Expr} {ifs : List Expr} {scope : Scope} {pos : Pos} (hset : notSet iter = true) (hblk : blkC C.N C.sc scope (ownOf C scope) = true) (htg : tgIn (blkCf C scope) ((ownOf C scope).map (·.2)) 6 tg = true)
    (snb : ∀ X' : Cx, CtxOk k (blkCf C scope) X' → Snd (blkCf C scope) X' (RC (blkCf C scope))) : SndL X (.ListComp elt [⟨tg, iter, ifs, 0⟩] scope pos) (compM RC C elt tg iter ifs scope) := by
  intro s acc s' hm F I H σ Q Rl q pins sh inv
  refine (pe_lc cx.calm (by rw [cx.N]; exact cx.nd) (pi_w tg iter) (blkX cx hblk) gB_ok tB_ok eB_ok (fold_of hset X.env)).run pins sh σ H Q inv ?_
  exact comp_reading cx sn hblk htg snb hm Rl (by rw [inv.len, cx.N]) q
end
end Bw
end

set_option Elab.async false
set_option linter.all false
set_option maxRecDepth 100000
set_option maxHeartbeats 4000000
noncomputable section
namespace Bw
open PySem L2 PySem.Spec

section
variable {X : Cx} {k : Nat} {C : Cf}
theorem SndE.of_eq {e : Expr} {m m' : S → Res D} (h : SndE X e m) (q : ∀ s d s', m' s = .ok d s' → m s = .ok d s') : SndE X e m' := fun s d s' hm => h s d s' (q s d s' hm)
theorem sndE_fail {e : Expr} : SndE X e fail := fun _ _ _ h => by cases h
theorem sndL_fail {e : Expr} : SndL X e fail := fun _ _ _ h => by cases h
theorem sndT_fail {e : Expr} : SndT X e fail := fun _ _ _ h => by cases h
theorem sndE_if {e : Expr} {b : Bool} {m m' : S → Res D} (h : b = true → SndE X e m) (h' : b = false → SndE X e m') : SndE X e (if b = true then m else m') := by
  cases b with
  | true => rw [if_pos rfl]; exact h rfl
  | false => rw [if_neg Bool.false_ne_true]; exact h' rfl
theorem sndL_if {e : Expr} {b : Bool} {m m' : S → Res (List D)} (h : b = true → SndL X e m) (h' : b = false → SndL X e m') : SndL X e (if b = true then m else m') := by
  cases b with
  | true => rw [if_pos rfl]; exact h rfl
  | false => rw [if_neg Bool.false_ne_true]; exact h' rfl
theorem snd_stepL {RC : Cf → EvK} (cx : CtxOk k C X) (sn : Snd C X (RC C)) (snb : ∀ (C' : Cf) (X' : Cx), CtxOk k C' X' → Snd C' X' (RC C')) (e : Expr) : SndL X e (stepL RC C e) := by
  unfold stepL
  split
  · exact sndL_if (fun h => snd_list sn.e h) fun _ => sndL_fail
  · refine sndL_if (fun h => ?_) fun _ => sndL_fail
    rw [Bool.and_eq_true, Bool.and_eq_true] at h
    exact snd_comp cx sn h.1.1 h.1.2 h.2 (fun X' c => snb _ X' c)
  · rename_i x p args q
    refine sndL_if (fun hb => ?_) fun hb => sndL_if (fun hg => ?_) fun _ => sndL_fail
    · by_cases ex : x = "list"
      · subst ex
        rw [if_pos rfl]
        match args with
        | [a] => exact sndL_if (fun h => snd_listOf cx sn hb h) fun _ => sndL_fail
        | [] => exact sndL_fail
        | _ :: _ :: _ => exact sndL_fail
      · rw [if_neg ex]
        exact sndL_fail
    · cases hf : C.fns x args.length [] with
      | none => exact sndL_fail
      | some fn => exact sndL_if (fun h => snd_callL cx sn.e hg hf h) fun _ => sndL_fail
  · exact sndL_fail
theorem snd_stepE {RC : Cf → EvK} (cx : CtxOk k C X) (sn : Snd C X (RC C)) (e : Expr) : SndE X e (stepE RC C e) := by
  unfold stepE
  split
  · rename_i i _ _
    intro s d s' hm F I H σ Q Rl q
    obtain ⟨rfl, rfl⟩ := ret_ok hm
    exact ofPE pe_int (q _ I H (Same.refl I) Rl (.int i))
  · rename_i i _ _
    intro s d s' hm F I H σ Q Rl q
    obtain ⟨rfl, rfl⟩ := ret_ok hm
    exact ofPE pe_str (q _ I H (Same.refl I) Rl (.str i))
  · rename_i i _ _
    intro s d s' hm F I H σ Q Rl q
    obtain ⟨rfl, rfl⟩ := ret_ok hm
    exact ofPE pe_bl (q _ I H (Same.refl I) Rl (.bl i))
  · intro s d s' hm F I H σ Q Rl q
    obtain ⟨rfl, rfl⟩ := ret_ok hm
    exact ofPE pe_non (q _ I H (Same.refl I) Rl .non)
  · exact snd_name cx
  · exact snd_bin (sn.e _) (sn.e _) fun x y d h => op2_bin h
  · exact snd_notV sn.e
  · exact snd_neg sn.e
  · exact snd_andV sn.e _
  · exact snd_orV sn.e _
  · exact snd_cmpE cx sn
  · exact snd_ifE sn
  · exact sndE_if (fun h => snd_tuple sn.e h) fun _ => sndE_fail
  · exact snd_ofL (sn.l _)
  · exact snd_ofL (sn.l _)
  · rename_i a lo hi p2 pos
    cases a with
    | Name x p =>
      cases hj : slotOf C x with
      | none => simp only [hj]; exact snd_slice cx sn
      | some j => simp only [hj]; exact snd_sliceN cx sn hj
    | _ => exact snd_slice cx sn
  · rename_i a i pos _
    refine sndE_if (fun h => ?_) fun _ => sndE_fail
    cases a with
    | Name x p =>
      cases hj : slotOf C x with
      | none => simp only [hj]; exact snd_ix sn.e h
      | some j => simp only [hj]; exact snd_ixN cx sn.e hj h
    | _ => exact snd_ix sn.e h
  · rename_i x p args q
    refine sndE_if (fun hb => sndE_if (fun hs => ?_) fun _ => sndE_fail) fun hb => sndE_if (fun hg => ?_) fun _ => sndE_fail
    · by_cases ex : x = "list"
      · rw [if_pos ex]
        exact snd_ofL (sn.l _)
      · rw [if_neg ex]
        exact snd_blt cx sn hb hs
    · cases hf : C.fns x args.length [] with
      | none => exact sndE_fail
      | some fn => exact sndE_if (fun h => snd_ofL (sn.l _)) fun h => snd_callE cx sn.e hg hf h
  · rename_i x p kw kws q
    refine sndE_if (fun hb => sndE_fail) fun hb => sndE_if (fun hg => ?_) fun _ => sndE_fail
    cases hf : C.fns x 0 ((kw :: kws).filterMap (·.arg)) with
    | none => exact sndE_fail
    | some fn =>
      refine sndE_if (fun h => ?_) fun _ => sndE_fail
      rw [Bool.and_eq_true] at h
      exact snd_callK cx sn.e hg (by simp) hf (by simpa using h.1) h.2
  · exact sndE_fail
theorem snd_stepT {RC : Cf → EvK} (cx : CtxOk k C X) (sn : Snd C X (RC C)) (e : Expr) : SndT X e (stepT RC C e) := by
  cases e with
  | BoolOp op es pos =>
    cases op with
    | And => exact sndT_W (snd_andT sn.t es)
    | Or => exact sndT_W (snd_orT sn.t es)
  | UnaryOp op a pos =>
    cases op with
    | Not => exact snd_notT sn.t
    | _ => exact snd_truth sn.e fun _ => rfl
  | Compare a ops bs pos => exact snd_cmpT cx sn
  | IfExp a b c pos => exact sndT_fail
  | _ => exact snd_truth sn.e fun _ => rfl
theorem snd_EV : ∀ (n : Nat) (C : Cf) (X : Cx), CtxOk k C X → Snd C X (EV n C)
  | 0, C, X, _ => ⟨fun _ => sndE_fail, fun _ => sndT_fail, fun _ => sndL_fail, (fun _ _ _ _ _ h => by cases h), (fun _ _ _ _ h => by cases h)⟩
  | n + 1, C, X, cx => by
    have ih := snd_EV n C X cx
    exact ⟨snd_stepE cx ih, snd_stepT cx ih, snd_stepL cx ih (snd_EV n), snd_stepI cx ih, snd_stepA cx ih⟩
end
end Bw
end

set_option Elab.async false
set_option linter.all false
set_option maxRecDepth 100000
set_option maxHeartbeats 4000000
noncomputable section
namespace Bw
open PySem L2 PySem.Spec

/-! ### statements -/
section
variable {X : Cx} {k : Nat} {C : Cf} {fr : Bool}
def RetR (fr : Bool) (K : PySem.W.Frag) (F : Fx) (I H : Hp) (v : V) (d : D) : Prop :=
  if fr = true then ∃ a vs ds, v = .ref a ∧ d = .list ds ∧ F.H0 a = none ∧ I a = none ∧ H a = some (.lst vs) ∧ DtAll K I vs ds else Dt K I v d
def Cont (fr : Bool) (K : PySem.W.Frag) (F : Fx) (I : Hp) (s' : S) (D : Ends) : Fl → Prop
  | .nx => ∀ I' H' σ', Same I I' → Rel K F I' H' σ' s' → D.nx σ' H'
  | .rt d => ∀ v I' H' σ', Same I I' → Rel K F I' H' σ' s' → RetR fr K F I' H' v d → D.rt v H'
  | .brk => ∀ I' H' σ', Same I I' → Rel K F I' H' σ' s' → D.bk σ' H'
  | .cnt => ∀ I' H' σ', Same I I' → Rel K F I' H' σ' s' → D.ct σ' H'
theorem Cont.mono {K : PySem.W.Frag} {F : Fx} {I I2 : Hp} {s' : S} {D : Ends} {fl : Fl} (i : Same I I2) (h : Cont fr K F I s' D fl) : Cont fr K F I2 s' D fl := by
  cases fl with
  | nx => exact fun I' H' σ' a b => h I' H' σ' (i.trans a) b
  | rt d => exact fun v I' H' σ' a b c => h v I' H' σ' (i.trans a) b c
  | brk => exact fun I' H' σ' a b => h I' H' σ' (i.trans a) b
  | cnt => exact fun I' H' σ' a b => h I' H' σ' (i.trans a) b
def SndS (fr : Bool) (X : Cx) (st : Stmt) (m : S → Res Fl) : Prop := ∀ s fl s', m s = .ok fl s' → ∀ (F : Fx) (I H : Hp) (σ : St) (D : Ends), Rel X.K F I H σ s → Cont fr X.K F I s' D fl → EvS X st D σ H
def SndSs (fr : Bool) (X : Cx) (st : List Stmt) (m : S → Res Fl) : Prop := ∀ s fl s', m s = .ok fl s' → ∀ (F : Fx) (I H : Hp) (σ : St) (D : Ends), Rel X.K F I H σ s → Cont fr X.K F I s' D fl → EvSs X st D σ H
theorem sndS_fail {st : Stmt} : SndS fr X st fail := fun _ _ _ h => by cases h
theorem snd_seq {f : Stmt → S → Res Fl} (hf : ∀ st, SndS fr X st (f st)) : ∀ sts : List Stmt, SndSs fr X sts (seqS f sts)
  | [] => fun s fl s' hm F I H σ D Rl q => by
    obtain ⟨rfl, rfl⟩ := ret_ok (show ret Fl.nx s = .ok fl s' from hm)
    exact ofPSs pss_nil (q I H σ (Same.refl I) Rl)
  | st :: r => fun s fl s' hm F I H σ D Rl q => by
    obtain ⟨fl1, s1, h1, h2⟩ := bnd_ok (show bnd (f st) (fun fl => match fl with | .nx => seqS f r | .rt d => ret (.rt d) | .brk => ret .brk | .cnt => ret .cnt) s = .ok fl s' from hm)
    refine ofPSs (pss_cons (ps_w st) (pss_w r)) ?_
    refine hf st s fl1 s1 h1 F I H σ _ Rl ?_
    cases fl1 with
    | nx => exact fun I1 H1 σ1 i1 R1 => snd_seq hf r s1 fl s' h2 F I1 H1 σ1 D R1 (q.mono i1)
    | rt d => obtain ⟨rfl, rfl⟩ := ret_ok h2; exact q
    | brk => obtain ⟨rfl, rfl⟩ := ret_ok h2; exact q
    | cnt => obtain ⟨rfl, rfl⟩ := ret_ok h2; exact q
theorem noSwap {e : Expr} (h : isComp e = false) (t : Option Expr) (l : Nat) (env : Env) : swapsWith e t l env = pure false := by
  cases e <;> first | rfl | cases h
theorem snd_if {R : EvK} {f : Stmt → S → Res Fl} (sn : Snd C X R) (hf : ∀ st, SndS fr X st (f st)) {c : Expr} {a b : List Stmt} {pos : Pos} : SndS fr X (.If c a b pos) (bnd (R.t c) fun k => if k then seqS f a else seqS f b) := by
  intro s fl s' hm F I H σ D Rl q
  obtain ⟨kb, s1, h1, h2⟩ := bnd_ok hm
  refine ofPS (ps_if (pt_w c) (pss_w a) (pss_w b)) (sn.t c s _ _ h1 F I H σ _ Rl fun I1 H1 i1 R1 => ?_)
  cases kb with
  | true =>
    rw [if_pos rfl] at h2 ⊢
    exact snd_seq hf a s1 fl s' h2 F I1 H1 σ D R1 (q.mono i1)
  | false =>
    rw [if_neg Bool.false_ne_true] at h2 ⊢
    exact snd_seq hf b s1 fl s' h2 F I1 H1 σ D R1 (q.mono i1)
theorem snd_for {R : EvK} {f : Stmt → S → Res Fl} (cx : CtxOk k C X) (hp : PassesOwn (model X.prog X.w) X.A X.env X.xe) (sn : Snd C X R) (hf : ∀ st, SndS fr X st (f st)) {tg it : Expr} {body : List Stmt} {pos : Pos} (hs : notSet it = true) :
    SndS fr X (.For tg it body [] pos) (bnd (R.it tg it) fun ds => forL (R.asg tg) (seqS f body) ds) := by
  intro s fl s' hm F I H σ D Rl q
  obtain ⟨ds, s1, h1, h2⟩ := bnd_ok hm
  refine ofPS (ps_for hp cx.calm (pi_w tg it) (pg_w tg) (pss_w body) (fold_of hs X.env)) (sn.it tg it s ds s1 h1 F I H σ _ Rl fun J I1 H1 i1 R1 wk => ?_)
  refine ⟨fun i m σc Hc => m = ds.length - i ∧ i ≤ ds.length ∧ ∃ (Ic : Hp) (sc : S), Same I1 Ic ∧ Rel X.K F Ic Hc σc sc ∧ forL (R.asg tg) (seqS f body) (ds.drop i) sc = .ok fl s', ⟨ds.length, by simp, Nat.zero_le _, I1, s1, Same.refl I1, R1, by rw [List.drop_zero]; exact h2⟩, ?_⟩
  rintro i m σc Hc ⟨rfl, hi, Ic, sc, i2, Rc, hc⟩
  obtain ⟨wgo, wstop⟩ := wk i Ic Hc i2 Rc.le
  by_cases hil : i < ds.length
  · have hdd : ds.drop i = ds[i] :: ds.drop (i + 1) := List.drop_eq_getElem_cons hil
    rw [hdd] at hc
    obtain ⟨⟨⟩, sa, ha, hc⟩ := bnd_ok (show bnd (R.asg tg ds[i]) (fun _ => bnd (seqS f body) fun fl => match fl with | .nx => forL (R.asg tg) (seqS f body) (ds.drop (i + 1)) | .cnt => forL (R.asg tg) (seqS f body) (ds.drop (i + 1)) | .brk => ret .nx | .rt d => ret (.rt d)) sc = .ok fl s' from hc)
    obtain ⟨fb, sb, hb1, hb2⟩ := bnd_ok hc
    obtain ⟨go, yld⟩ := wgo ds[i] (List.getElem?_eq_getElem hil)
    refine .inr ⟨go, _, fun σ' H' hN => ⟨ds.length - (i + 1), by omega, rfl, hil, hN⟩, fun x H' y => ?_⟩
    obtain ⟨Iy, i3, Ry, dx⟩ : ∃ Iy, Same Ic Iy ∧ Rel X.K F Iy H' σc sc ∧ Dt X.K Iy x ds[i] := by
      rcases yld x H' y with ⟨rfl, dx⟩ | ⟨T, o, hT, rfl, dx⟩
      · exact ⟨Ic, Same.refl Ic, Rc, dx⟩
      · exact ⟨_, same_new (Rc.freshI hT) o, Rc.lay hT, dx⟩
    refine sn.asg tg ds[i] sc sa ha F Iy H' σc x _ Ry dx fun I3 H3 σ3 j3 R3 l3 _ => ?_
    refine snd_seq hf body sa fb sb hb1 F I3 H3 σ3 _ R3 ?_
    have i13 : Same I1 I3 := i2.trans (i3.trans j3)
    cases fb with
    | nx => exact fun I4 H4 σ4 j4 R4 => ⟨I4, sb, i13.trans j4, R4, hb2⟩
    | cnt => exact fun I4 H4 σ4 j4 R4 => ⟨I4, sb, i13.trans j4, R4, hb2⟩
    | brk =>
      obtain ⟨rfl, rfl⟩ := ret_ok hb2
      exact fun I4 H4 σ4 j4 R4 => q I4 H4 σ4 (i1.trans (i13.trans j4)) R4
    | rt d =>
      obtain ⟨rfl, rfl⟩ := ret_ok hb2
      exact fun v I4 H4 σ4 j4 R4 r4 => q v I4 H4 σ4 (i1.trans (i13.trans j4)) R4 r4
  · have ei : i = ds.length := by omega
    subst ei
    rw [List.drop_length] at hc
    cases (show Res.ok Fl.nx sc = Res.ok fl s' from hc)
    exact .inl ⟨wstop (Nat.le_refl _), q Ic Hc σc (i1.trans i2) Rc⟩
theorem snd_while {R : EvK} {f : Stmt → S → Res Fl} (hp : PassesOwn (model X.prog X.w) X.A X.env X.xe) (sn : Snd C X R) (hf : ∀ st, SndS fr X st (f st)) {c : Expr} {body : List Stmt} {pos : Pos} (wf : Nat) : SndS fr X (.While c body [] pos) (whileL (R.t c) (seqS f body) wf) := by
  intro s fl s' hm F I H σ D Rl q
  refine ofPS (ps_while hp (pt_w c) (pss_w body)) ?_
  refine ⟨fun m σc Hc => ∃ (Ic : Hp) (sc : S), Same I Ic ∧ Rel X.K F Ic Hc σc sc ∧ whileL (R.t c) (seqS f body) m sc = .ok fl s', ⟨wf, I, s, Same.refl I, Rl, hm⟩, ?_⟩
  rintro m σc Hc ⟨Ic, sc, i2, Rc, hc⟩
  cases m with
  | zero => cases hc
  | succ m =>
    obtain ⟨kb, s1, h1, h2⟩ := bnd_ok (show bnd (R.t c) (fun k => if k then bnd (seqS f body) fun fl => match fl with | .nx => whileL (R.t c) (seqS f body) m | .cnt => whileL (R.t c) (seqS f body) m | .brk => ret .nx | .rt d => ret (.rt d) else ret .nx) sc = .ok fl s' from hc)
    refine sn.t c sc kb s1 h1 F Ic Hc σc _ Rc fun I1 H1 i1 R1 => ?_
    cases kb with
    | false =>
      rw [if_neg Bool.false_ne_true] at h2 ⊢
      obtain ⟨rfl, rfl⟩ := ret_ok h2
      exact q I1 H1 σc (i2.trans i1) R1
    | true =>
      rw [if_pos rfl] at h2 ⊢
      obtain ⟨fb, sb, hb1, hb2⟩ := bnd_ok h2
      refine ⟨_, fun σ' H' hN => ⟨m, Nat.lt_succ_self m, hN⟩, ?_⟩
      refine snd_seq hf body s1 fb sb hb1 F I1 H1 σc _ R1 ?_
      cases fb with
      | nx => exact fun I4 H4 σ4 j4 R4 => ⟨I4, sb, i2.trans (i1.trans j4), R4, hb2⟩
      | cnt => exact fun I4 H4 σ4 j4 R4 => ⟨I4, sb, i2.trans (i1.trans j4), R4, hb2⟩
      | brk =>
        obtain ⟨rfl, rfl⟩ := ret_ok hb2
        exact fun I4 H4 σ4 j4 R4 => q I4 H4 σ4 (i2.trans (i1.trans j4)) R4
      | rt d =>
        obtain ⟨rfl, rfl⟩ := ret_ok hb2
        exact fun v I4 H4 σ4 j4 R4 r4 => q v I4 H4 σ4 (i2.trans (i1.trans j4)) R4 r4
/-- return -/
theorem snd_ret {R : EvK} (sn : Snd C X R) {e : Expr} {pos : Pos} : SndS false X (.Return (some e) pos) (bnd (R.e e) fun d => ret (.rt d)) := by
  intro s fl s' hm F I H σ D Rl q
  obtain ⟨d, s1, h1, h2⟩ := bnd_ok hm
  obtain ⟨rfl, rfl⟩ := ret_ok h2
  exact ofPS (ps_ret (pe_w e)) (sn.e e s _ _ h1 F I H σ _ Rl fun v I1 H1 i1 R1 d1 => q v I1 H1 σ i1 R1 d1)
theorem snd_retL {R : EvK} (sn : Snd C X R) {e : Expr} {pos : Pos} : SndS true X (.Return (some e) pos) (bnd (R.l e) fun ds => ret (.rt (.list ds))) := by
  intro s fl s' hm F I H σ D Rl q
  obtain ⟨d, s1, h1, h2⟩ := bnd_ok hm
  obtain ⟨rfl, rfl⟩ := ret_ok h2
  refine ofPS (ps_ret (pe_w e)) (sn.l e s _ _ h1 F I H σ _ Rl fun a I1 H1 i1 R1 f => ?_)
  obtain ⟨vs, k1, k2⟩ := f.ex
  exact q _ I1 H1 σ i1 R1 ⟨a, vs, d, rfl, rfl, f.h0, f.hI, k1, k2⟩
theorem snd_retO (cx : CtxOk k C X) {x : Str} {p pos : Pos} {i : Nat} (hi : slotOf C x = some i) : SndS true X (.Return (some (.Name x p)) pos) (fun s => match s.g[i]? with | some (.own ds) => .ok (.rt (.list ds)) s | _ => .bad) := by
  intro s fl s' hm F I H σ D Rl q
  dsimp only at hm
  split at hm
  · rename_i ds e
    cases hm
    obtain ⟨a, vs, h1, h2, h3, h4, h5, h6⟩ := Rl.own i ds e
    exact ofPS (ps_ret (pe_slot cx hi)) ⟨_, h1, q _ I H σ (Same.refl I) Rl ⟨a, vs, ds, rfl, rfl, h2, h3, h5, h6⟩⟩
  · cases hm
/-- x = e -/
theorem snd_asgN (cx : CtxOk k C X) {R : EvK} (sn : Snd C X R) {x : Str} {p pos : Pos} {e : Expr} {i : Nat} (hi : locOf C x = some i) (hc : isComp e = false) : SndS fr X (.Assign [.Name x p] e pos) (bnd (R.e e) fun d => bnd (setS i d) fun _ => ret .nx) := by
  intro s fl s' hm F I H σ D Rl q
  obtain ⟨d, s1, h1, h2⟩ := bnd_ok hm
  obtain ⟨⟨⟩, s2, h3, h4⟩ := bnd_ok h2
  obtain ⟨rfl, rfl⟩ := ret_ok h4
  cases (show Res.ok () { s1 with g := s1.g.set i (.dat d) } = Res.ok () s' from h3)
  obtain ⟨l1, l2, l3⟩ := locOf_ok cx hi
  refine ofPS (ps_set (by rw [cx.N]; exact cx.nd) l1 l2 (pe_w e) (noSwap hc _ _ _) l3) (sn.e e s _ _ h1 F I H σ _ Rl fun v I1 H1 i1 R1 d1 => ?_)
  exact q I1 H1 _ i1 (R1.setD i d1)
theorem snd_asgF (cx : CtxOk k C X) {R : EvK} (sn : Snd C X R) {x : Str} {p pos : Pos} {e : Expr} {i : Nat} (hi : locOf C x = some i) (hc : swapsWith e (some (.Name x p)) pos.line X.env = pure false) : SndS fr X (.Assign [.Name x p] e pos) (bnd (R.l e) fun ds => bnd (setO i ds) fun _ => ret .nx) := by
  intro s fl s' hm F I H σ D Rl q
  obtain ⟨d, s1, h1, h2⟩ := bnd_ok hm
  obtain ⟨⟨⟩, s2, h3, h4⟩ := bnd_ok h2
  obtain ⟨rfl, rfl⟩ := ret_ok h4
  cases (show Res.ok () { s1 with g := s1.g.set i (.own d) } = Res.ok () s' from h3)
  obtain ⟨l1, l2, l3⟩ := locOf_ok cx hi
  refine ofPS (ps_set (by rw [cx.N]; exact cx.nd) l1 l2 (pe_w e) hc l3) (sn.l e s _ _ h1 F I H σ _ Rl fun a I1 H1 i1 R1 f => ?_)
  obtain ⟨vs, k1, k2⟩ := f.ex
  exact q I1 H1 _ i1 (R1.setO i f.h0 f.hI f.hb k1 k2 fun j es _ e => f.own j es e)
/-- x = [..], the name a local: stored within the comprehension's frame -/
theorem snd_asgC (cx : CtxOk k C X) {RC : Cf → EvK} (sn : Snd C X (RC C)) (snb : ∀ (C' : Cf) (X' : Cx), CtxOk k C' X' → Snd C' X' (RC C')) {x : Str} {p pos spos : Pos} {elt : Expr} {gs : List Comprehension} {scope : Scope} {i : Nat} (hi : locOf C x = some i)
    (hx : C.sc.names.lookup x = some .local) (hl : (p.line == pos.line) = true) (ha : (scope.names.any fun (n, k) => n == x && (k == .local || k == .cell)) = false) :
    SndS fr X (.Assign [.Name x p] (.ListComp elt gs scope pos) spos) (bnd (stepL RC C (.ListComp elt gs scope pos)) fun ds => bnd (setO i ds) fun _ => ret .nx) := by
  intro s fl s' hm F I H σ D Rl q
  obtain ⟨d, s1, h1, h2⟩ := bnd_ok hm
  obtain ⟨⟨⟩, s2, h3, h4⟩ := bnd_ok h2
  obtain ⟨rfl, rfl⟩ := ret_ok h4
  cases (show Res.ok () { s1 with g := s1.g.set i (.own d) } = Res.ok () s' from h3)
  obtain ⟨l1, l2, l3⟩ := locOf_ok cx hi
  match gs, h1 with
  | [], h1 => cases h1
  | ⟨_, _, _, .negSucc _⟩ :: _ :: _, h1 => cases h1
  | ⟨_, _, _, .ofNat 0⟩ :: _ :: _, h1 => cases h1
  | ⟨_, _, _, .ofNat (_ + 1)⟩ :: _ :: _, h1 => cases h1
  | [⟨tg, iter, ifs, .negSucc _⟩], h1 => cases h1
  | [⟨tg, iter, ifs, .ofNat (_ + 1)⟩], h1 => cases h1
  | [⟨tg, iter, ifs, .ofNat 0⟩], h1 =>
    have h1' : (if (notSet iter && blkC C.N C.sc scope (ownOf C scope) && tgIn (blkCf C scope) ((ownOf C scope).map (·.2)) 6 tg) = true then compM RC C elt tg iter ifs scope else fail) s = .ok d s1 := h1
    by_cases hb : (notSet iter && blkC C.N C.sc scope (ownOf C scope) && tgIn (blkCf C scope) ((ownOf C scope).map (·.2)) 6 tg) = true
    · rw [if_pos hb] at h1'
      rw [Bool.and_eq_true, Bool.and_eq_true] at hb
      intro pins sh inv
      refine (ps_setLc cx.calm (by rw [cx.N]; exact cx.nd) l1 (by rw [cx.sc]; exact hx) (sw_true (by rw [cx.sc]; exact cx.kind) (by rw [cx.sc]; exact hx) hl ha) (pi_w tg iter) (blkX cx hb.1.2) gB_ok tB_ok eB_ok (fold_of hb.1.1 X.env)).run pins sh σ H D inv ?_
      refine comp_reading cx sn hb.1.2 hb.2 (fun X' c => snb _ X' c) h1' Rl (by rw [inv.len, cx.N]) fun a I1 H1 i1 R1 f => ?_
      obtain ⟨vs, k1, k2⟩ := f.ex
      exact q I1 H1 _ i1 (R1.setO i f.h0 f.hI f.hb k1 k2 fun j es _ e => f.own j es e)
    · rw [if_neg hb] at h1'
      cases h1'
theorem swap_cell (cx : CtxOk k C X) {x : Str} {p pos : Pos} {elt : Expr} {gs : List Comprehension} {scope : Scope} {l : Nat} (hx : C.sc.names.lookup x = some .cell) : swapsWith (.ListComp elt gs scope pos) (some (.Name x p)) l X.env = pure false := by
  have e1 : X.env.kindOf x = some .cell := by unfold Env.kindOf; rw [cx.sc]; exact hx
  have e2 : (some NameKind.cell == some NameKind.local) = false := rfl
  unfold swapsWith
  simp only [e1, e2, Bool.and_false, Bool.false_and]
/-- another target -/
theorem snd_asgT1 {R : EvK} (sn : Snd C X R) {tg e : Expr} {pos : Pos} (hc : isComp e = false) (hst : noStar tg = true) (hw : swappedStores [tg] e X.env = pure none) : SndS fr X (.Assign [tg] e pos) (bnd (R.e e) fun d => bnd (R.asg tg d) fun _ => ret .nx) := by
  intro s fl s' hm F I H σ D Rl q
  obtain ⟨d, s1, h1, h2⟩ := bnd_ok hm
  obtain ⟨⟨⟩, s2, h3, h4⟩ := bnd_ok h2
  obtain ⟨rfl, rfl⟩ := ret_ok h4
  have h1' : (assignEach [tg] X.env).map (·.2) = [assign tg X.env] := by cases tg <;> first | rfl | cases hst
  refine ofPS (ps_asg (pe_w e) (pg_w tg) (noSwap hc _ _ _) hw h1') (sn.e e s _ _ h1 F I H σ _ Rl fun v I1 H1 i1 R1 d1 => ?_)
  exact sn.asg tg d s1 _ h3 F I1 H1 σ v _ R1 d1 fun I2 H2 σ2 i2 R2 _ _ => q I2 H2 σ2 (i1.trans i2) R2
theorem filterMap_full {α β : Type} {f : α → Option β} : ∀ {l : List α}, (l.filterMap f).length = l.length → ∀ x ∈ l, (f x).isSome = true
  | [], _, x, hx => by cases hx
  | a :: l, h, x, hx => by
    rw [List.filterMap_cons] at h
    cases q : f a with
    | none =>
      rw [q] at h
      have h1 := List.length_filterMap_le f l
      simp only [List.length_cons] at h
      omega
    | some b =>
      rw [q] at h
      simp only [List.length_cons, Nat.add_right_cancel_iff] at h
      rcases List.mem_cons.mp hx with rfl | hx
      · rw [q]; rfl
      · exact filterMap_full h x hx
theorem swC_none {tg e : Expr} (cx : CtxOk k C X) (h : swC C.sc tg e = some none) : swappedStores [tg] e X.env = pure none := by
  have ek : ∀ id, X.env.kindOf id = C.sc.names.lookup id := fun id => by unfold Env.kindOf; rw [cx.sc]
  unfold swC at h
  split at h
  · rename_i ts k1 p1 vs k2 p2
    split at h
    · split at h
      · split at h <;> cases h
      · split at h <;> cases h
      · cases h
    · rename_i hn
      unfold swappedStores
      simp only [pure_bind]
      split
      · rfl
      split
      · rfl
      rw [if_pos]
      rw [Bool.or_eq_true]
      refine .inl ?_
      rw [bne_iff_ne]
      intro z
      apply hn
      refine List.all_eq_true.mpr fun t ht => ?_
      have q := filterMap_full z t ht
      cases t with
      | Name id pos =>
        simp only [ek] at q
        unfold locNm headLine
        simp only
        split at q
        · assumption
        · cases q
      | _ => cases q
  · rename_i ts k1 p1 e' hne
    unfold swappedStores
    cases e <;> first | rfl | exact absurd rfl (hne _ _ _)
  · unfold swappedStores
    cases e <;> rfl
  · cases h
theorem eraseDups2 {x y : Str} (h : (x == y) = false) : ([x, y] : List Str).eraseDups.length = 2 := by
  have h' : (y == x) = false := by rw [Bool.eq_false_iff] at h ⊢; intro z; exact h (by rw [eq_of_beq z]; exact beq_self_eq_true _)
  simp [List.eraseDups_cons, h']
theorem eraseDups3 {x y z : Str} (h : (x == y) = false) (h2 : (x == z) = false) (h3 : (y == z) = false) : ([x, y, z] : List Str).eraseDups.length = 3 := by
  have sw : ∀ {a b : Str}, (a == b) = false → (b == a) = false := fun {a b} h => by rw [Bool.eq_false_iff] at h ⊢; intro z; exact h (by rw [eq_of_beq z]; exact beq_self_eq_true _)
  simp [List.eraseDups_cons, sw h, sw h2, sw h3]
theorem blockK (cx : CtxOk k C X) : (X.env.blockKind != ScopeKind.function) = false := by
  have : X.env.blockKind = .function := by unfold Env.blockKind; rw [cx.sc, cx.kind]; rfl
  rw [this]; rfl
theorem swC_2 (cx : CtxOk k C X) {x y : Str} {px py pt pt2 : Pos} {k1 k2 : Nat} {a b : Expr} (hx : C.sc.names.lookup x = some .local) (hy : C.sc.names.lookup y = some .local) (hl : (py.line == px.line) = true) (hne : (x == y) = false) (ha : noStar a = true) (hb : noStar b = true)
    (hf : (foldedForSure 8 a && foldedForSure 8 b) = false) (hc : (constantsAlone 8 a && constantsAlone 8 b) = false) : swappedStores [.Tuple [.Name x px, .Name y py] k1 pt] (.Tuple [a, b] k2 pt2) X.env = pure (some [x, y]) := by
  have ex : X.env.kindOf x = some .local := by unfold Env.kindOf; rw [cx.sc]; exact hx
  have ey : X.env.kindOf y = some .local := by unfold Env.kindOf; rw [cx.sc]; exact hy
  have eb := blockK cx
  have ed := eraseDups2 hne
  have e3 : ((Expr.Name x px).pos.line == px.line) = true := beq_self_eq_true _
  unfold swappedStores
  simp only [pure_bind, List.length_cons, List.length_nil, eb, List.any_cons, List.any_nil, List.filterMap_cons, List.filterMap_nil, ex, ey, List.head?_cons, Option.map_some, Option.getD_some, Expr.pos, hl, beq_self_eq_true, ed, List.all_cons, List.all_nil, Bool.and_true, hf, hc, Bool.or_false, Bool.true_or, Bool.not_true, bne_self_eq_false, if_true, if_false, Bool.false_eq_true]
  rw [if_neg]
  rw [Bool.or_eq_true, not_or]
  constructor
  · cases a <;> first | (intro z; cases z; done) | cases ha
  · cases b <;> first | (intro z; cases z; done) | cases hb
theorem swC_3 (cx : CtxOk k C X) {x y z : Str} {px py pz pt pt2 : Pos} {k1 k2 : Nat} {a b c : Expr} (hx : C.sc.names.lookup x = some .local) (hy : C.sc.names.lookup y = some .local) (hz : C.sc.names.lookup z = some .local) (hl : (py.line == px.line) = true) (hl2 : (pz.line == px.line) = true)
    (hne : (x == y) = false) (hne2 : (x == z) = false) (hne3 : (y == z) = false) (ha : noStar a = true) (hb : noStar b = true) (hcs : noStar c = true)
    (hf : (foldedForSure 8 a && (foldedForSure 8 b && foldedForSure 8 c)) = false) (hc : (constantsAlone 8 a && (constantsAlone 8 b && constantsAlone 8 c)) = false) : swappedStores [.Tuple [.Name x px, .Name y py, .Name z pz] k1 pt] (.Tuple [a, b, c] k2 pt2) X.env = pure (some [x, y, z]) := by
  have ex : X.env.kindOf x = some .local := by unfold Env.kindOf; rw [cx.sc]; exact hx
  have ey : X.env.kindOf y = some .local := by unfold Env.kindOf; rw [cx.sc]; exact hy
  have ez : X.env.kindOf z = some .local := by unfold Env.kindOf; rw [cx.sc]; exact hz
  have eb := blockK cx
  have ed := eraseDups3 hne hne2 hne3
  unfold swappedStores
  simp only [pure_bind, List.length_cons, List.length_nil, eb, List.any_cons, List.any_nil, List.filterMap_cons, List.filterMap_nil, ex, ey, ez, List.head?_cons, Option.map_some, Option.getD_some, Expr.pos, hl, hl2, beq_self_eq_true, ed, List.all_cons, List.all_nil, Bool.and_true, hf, hc, Bool.or_false, Bool.or_true, Bool.not_true, bne_self_eq_false, if_true, if_false, Bool.false_eq_true]
  rw [if_neg]
  rw [Bool.or_eq_true, not_or, Bool.or_eq_true, not_or]
  refine ⟨?_, ?_, ?_⟩
  · cases a <;> first | (intro z; cases z; done) | cases ha
  · cases b <;> first | (intro z; cases z; done) | cases hb
  · cases c <;> first | (intro z; cases z; done) | cases hcs
/-- a, b = x, y and a, b, c = x, y, z: stored from the right -/
theorem setNm_2 {x y : Str} {d e : D} {s s' : S} (h : setNm C [x, y] [d, e] s = .ok () s') : ∃ i j, locOf C x = some i ∧ locOf C y = some j ∧ s' = { s with g := (s.g.set i (.dat d)).set j (.dat e) } := by
  obtain ⟨⟨⟩, s1, h1, h2⟩ := bnd_ok (show bnd (match locOf C x with | some i => setS i d | none => fail) (fun _ => setNm C [y] [e]) s = .ok () s' from h)
  obtain ⟨⟨⟩, s2, h3, h4⟩ := bnd_ok (show bnd (match locOf C y with | some i => setS i e | none => fail) (fun _ => setNm C [] []) s1 = .ok () s' from h2)
  obtain ⟨_, rfl⟩ := ret_ok (show ret () s2 = .ok () s' from h4)
  cases hx : locOf C x with
  | none => simp only [hx] at h1; cases h1
  | some i =>
    cases hy : locOf C y with
    | none => simp only [hy] at h3; cases h3
    | some j =>
      simp only [hx] at h1
      simp only [hy] at h3
      cases h1
      cases h3
      exact ⟨i, j, rfl, rfl, rfl⟩
theorem setNm_3 {x y z : Str} {d e f : D} {s s' : S} (h : setNm C [x, y, z] [d, e, f] s = .ok () s') : ∃ i j l, locOf C x = some i ∧ locOf C y = some j ∧ locOf C z = some l ∧ s' = { s with g := ((s.g.set i (.dat d)).set j (.dat e)).set l (.dat f) } := by
  obtain ⟨⟨⟩, s1, h1, h2⟩ := bnd_ok (show bnd (match locOf C x with | some i => setS i d | none => fail) (fun _ => setNm C [y, z] [e, f]) s = .ok () s' from h)
  obtain ⟨j, l, h3, h4, h5⟩ := setNm_2 h2
  cases hx : locOf C x with
  | none => simp only [hx] at h1; cases h1
  | some i =>
    simp only [hx] at h1
    cases h1
    exact ⟨i, j, l, rfl, h3, h4, h5⟩
theorem loc_ne (cx : CtxOk k C X) {x y : Str} {i j : Nat} (hx : locOf C x = some i) (hy : locOf C y = some j) (h : (x == y) = false) : i ≠ j := fun e => by
  subst e
  have h1 := (locOf_ok cx hx).1
  have h2 := (locOf_ok cx hy).1
  rw [h1] at h2
  cases h2
  rw [beq_self_eq_true] at h
  cases h
theorem snd_par (cx : CtxOk k C X) {R : EvK} (sn : Snd C X R) {tg : Expr} {es : List Expr} {k2 : Nat} {pt2 pos : Pos} {names : List Str} (hw : swC C.sc tg (.Tuple es k2 pt2) = some (some names)) :
    SndS fr X (.Assign [tg] (.Tuple es k2 pt2) pos) (bnd (evs R.e es) fun ds => bnd (setNm C names ds) fun _ => ret .nx) := by
  intro s fl s' hm F I H σ D Rl q
  obtain ⟨ds, s1, h1, h2⟩ := bnd_ok hm
  obtain ⟨⟨⟩, s2, h3, h4⟩ := bnd_ok h2
  obtain ⟨rfl, rfl⟩ := ret_ok h4
  unfold swC at hw
  split at hw
  · rename_i ts k1 p1 vs k2' p2' e
    cases e
    split at hw
    · rename_i hall
      split at hw
      · rename_i x px y py a b
        split at hw
        · rename_i hc
          cases hw
          simp only [Bool.and_eq_true, Bool.not_eq_true'] at hc
          obtain ⟨⟨⟨⟨c1, c2⟩, c3⟩, c4⟩, c5⟩ := hc
          simp only [List.all_cons, List.all_nil, Bool.and_true, Bool.and_eq_true, locNm, headLine, List.head?_cons, Option.map_some, Option.getD_some, Expr.pos, beq_iff_eq] at hall
          obtain ⟨⟨a1, _⟩, a2, a3⟩ := hall
          have hsw := swC_2 (k1 := k1) (k2 := k2) (pt := p1) (pt2 := pt2) cx a1 a2 (beq_iff_eq.mpr a3) c1 c2 c3 c4 c5
          match ds, h3 with
          | [d, e], h3 =>
            obtain ⟨i, j, hi, hj, rfl⟩ := setNm_2 h3
            have li := locOf_ok cx hi
            have lj := locOf_ok cx hj
            refine ofPS (ps_par cx.calm (by rw [cx.N]; exact cx.nd) li.1 lj.1 (loc_ne cx hi hj c1) (by rw [cx.sc]; exact a1) (by rw [cx.sc]; exact a2) (pa_w [a, b]) hsw) ?_
            refine snd_evs sn.e [a, b] (by rw [List.all_cons, List.all_cons, c2, c3]; rfl) s _ _ h1 F I H σ _ Rl fun vs I1 H1 i1 R1 d1 => ?_
            cases d1 with | @cons v _ _ _ d1 d2 =>
            cases d2 with | @cons u _ _ _ d2 d3 =>
            cases d3
            exact ⟨v, u, rfl, q I1 H1 _ i1 ((R1.setD i d1).setD j d2)⟩
          | [], h3 => cases h3
          | [d], h3 =>
            obtain ⟨⟨⟩, s3, _, h5⟩ := bnd_ok (show bnd _ (fun _ => setNm C [y] []) s1 = .ok () _ from h3)
            cases h5
          | _ :: _ :: _ :: _, h3 =>
            obtain ⟨⟨⟩, s3, _, h5⟩ := bnd_ok (show bnd _ (fun _ => setNm C [y] (_ :: _ :: _)) s1 = .ok () _ from h3)
            obtain ⟨⟨⟩, s4, _, h6⟩ := bnd_ok (show bnd _ (fun _ => setNm C [] (_ :: _)) s3 = .ok () _ from h5)
            cases h6
        · cases hw
      · rename_i x px y py z pz a b c
        split at hw
        · rename_i hc
          cases hw
          simp only [Bool.and_eq_true, Bool.not_eq_true'] at hc
          obtain ⟨⟨⟨⟨⟨⟨⟨c1, c2⟩, c3⟩, c4⟩, c5⟩, c6⟩, c7⟩, c8⟩ := hc
          simp only [List.all_cons, List.all_nil, Bool.and_true, Bool.and_eq_true, locNm, headLine, List.head?_cons, Option.map_some, Option.getD_some, Expr.pos, beq_iff_eq] at hall
          obtain ⟨⟨a1, _⟩, ⟨a2, a3⟩, a4, a5⟩ := hall
          have hsw := swC_3 (k1 := k1) (k2 := k2) (pt := p1) (pt2 := pt2) cx a1 a2 a4 (beq_iff_eq.mpr a3) (beq_iff_eq.mpr a5) c1 c2 c3 c4 c5 c6 c7 c8
          match ds, h3 with
          | [d, e, f], h3 =>
            obtain ⟨i, j, l, hi, hj, hl, rfl⟩ := setNm_3 h3
            have li := locOf_ok cx hi
            have lj := locOf_ok cx hj
            have ll := locOf_ok cx hl
            refine ofPS (ps_par3 cx.calm (by rw [cx.N]; exact cx.nd) li.1 lj.1 ll.1 (loc_ne cx hi hj c1) (loc_ne cx hi hl c2) (loc_ne cx hj hl c3) (by rw [cx.sc]; exact a1) (by rw [cx.sc]; exact a2) (by rw [cx.sc]; exact a4) (pa_w [a, b, c]) hsw) ?_
            refine snd_evs sn.e [a, b, c] (by rw [List.all_cons, List.all_cons, List.all_cons, c4, c5, c6]; rfl) s _ _ h1 F I H σ _ Rl fun vs I1 H1 i1 R1 d1 => ?_
            cases d1 with | @cons v _ _ _ d1 d2 =>
            cases d2 with | @cons u _ _ _ d2 d3 =>
            cases d3 with | @cons w _ _ _ d3 d4 =>
            cases d4
            exact ⟨v, u, w, rfl, q I1 H1 _ i1 (((R1.setD i d1).setD j d2).setD l d3)⟩
          | [], h3 => cases h3
          | [d], h3 =>
            obtain ⟨⟨⟩, s3, _, h5⟩ := bnd_ok (show bnd _ (fun _ => setNm C [y, z] []) s1 = .ok () _ from h3)
            cases h5
          | [d, e], h3 =>
            obtain ⟨⟨⟩, s3, _, h5⟩ := bnd_ok (show bnd _ (fun _ => setNm C [y, z] [e]) s1 = .ok () _ from h3)
            obtain ⟨⟨⟩, s4, _, h6⟩ := bnd_ok (show bnd _ (fun _ => setNm C [z] []) s3 = .ok () _ from h5)
            cases h6
          | _ :: _ :: _ :: _ :: _, h3 =>
            obtain ⟨⟨⟩, s3, _, h5⟩ := bnd_ok (show bnd _ (fun _ => setNm C [y, z] (_ :: _ :: _ :: _)) s1 = .ok () _ from h3)
            obtain ⟨⟨⟩, s4, _, h6⟩ := bnd_ok (show bnd _ (fun _ => setNm C [z] (_ :: _ :: _)) s3 = .ok () _ from h5)
            obtain ⟨⟨⟩, s5, _, h7⟩ := bnd_ok (show bnd _ (fun _ => setNm C [] (_ :: _)) s4 = .ok () _ from h6)
            cases h7
        · cases hw
      · cases hw
    · cases hw
  · rename_i hne
    exact (hne _ _ _ rfl).elim
  · cases hw
  · cases hw
/-- x op= e -/
theorem snd_aug (cx : CtxOk k C X) {R : EvK} (sn : Snd C X R) {x : Str} {p pos : Pos} {op : Operator} {e : Expr} {i : Nat} (hi : slotOf C x = some i) (hl : locOf C x = some i) :
    SndS fr X (.AugAssign (.Name x p) op e pos) (bnd (rdS i) fun d => bnd (R.e e) fun d' => bnd (lift (augD op d d')) fun r => bnd (setS i r) fun _ => ret .nx) := by
  intro s fl s' hm F I H σ D Rl q
  obtain ⟨d, s0, h0, h2⟩ := bnd_ok hm
  obtain ⟨d', s1, h3, h4⟩ := bnd_ok h2
  obtain ⟨r, s2, h5, h6⟩ := bnd_ok h4
  obtain ⟨e5, rfl⟩ := lift_ok h5
  obtain ⟨⟨⟩, s3, h7, h8⟩ := bnd_ok h6
  obtain ⟨rfl, rfl⟩ := ret_ok h8
  cases (show Res.ok () { s2 with g := s2.g.set i (.dat r) } = Res.ok () s' from h7)
  obtain ⟨l1, l2, l3⟩ := locOf_ok cx hl
  obtain ⟨rr, hr, hq⟩ := op2_aug (X := X) e5
  intro pins sh inv
  refine (ps_aug (by rw [cx.N]; exact cx.nd) l1 l2 (pe_w e) (ti := rr) hr l3).run pins sh σ H D inv ?_
  obtain ⟨v, I0, hv, i0, R0, dv⟩ : ∃ v I0, σ[i]? = some (some v) ∧ Same I I0 ∧ Rel X.K F I0 H σ s0 ∧ Dt X.K I0 v d := by
    unfold rdS at h0
    split at h0
    · rename_i d0 e0
      cases h0
      obtain ⟨v, a1, a2⟩ := Rl.dat i _ e0
      exact ⟨v, I, a1, Same.refl I, Rl, a2⟩
    · rename_i ds0 e0
      cases h0
      obtain ⟨a, I0, a1, a2, a3, a4⟩ := Rl.freeze e0
      exact ⟨_, I0, a1, a2, a4, a3⟩
    · cases h0
  refine ⟨v, hv, sn.e e s0 _ _ h3 F I0 H σ _ R0 fun u I1 H1 i1 R1 d1 => ?_⟩
  exact hq F I1 H1 σ _ v u _ R1 (dp_mono i1 d dv) d1 fun w I2 H2 i2 R2 dw => q I2 H2 _ (i0.trans (i1.trans i2)) (R2.setD i dw)
/-- xs.append(e) -/
theorem snd_app (cx : CtxOk k C X) {R : EvK} (sn : Snd C X R) {x : Str} {p ap cp pos : Pos} {a : Expr} {i : Nat} (hi : slotOf C x = some i) (hl : (ap.endLine == cp.line) = true) (ha : noStar a = true) :
    SndS fr X (.Expr (.Call (.Attribute (.Name x p) "append" ap) [a] [] cp) pos) (bnd (pkS i) fun c => (match c with
        | .list _ => bnd (R.e a) fun d => bnd (chL i (appD d)) fun _ => ret .nx
        | _ => fail)) := by
  intro s fl s' hm F I H σ D Rl q
  obtain ⟨c, s0, h0, h1⟩ := bnd_ok hm
  obtain ⟨e0, v, hv, pv⟩ := pkS_at h0 Rl
  subst e0
  cases c <;> try (cases h1; done)
  rename_i cs
  obtain ⟨d, s1, h2, h3⟩ := bnd_ok h1
  obtain ⟨r, s2, h4, h5⟩ := bnd_ok h3
  obtain ⟨rfl, rfl⟩ := ret_ok h5
  have few : ((backTo cp (starEach [a] X.env)).all (fun x => !x.1) && (backToKw cp (keywordEach [] X.env)).all (fun x => x.1.isSome) && decide ([a].length + ([] : List Keyword).length + (if ([] : List Keyword).isEmpty then 0 else 1) < 30)) = true := by
    rw [star_cons ha]
    rfl
  refine ofPS (ps_expr (pe_bm PySem.F.plainAttrs_list PySem.F.slot_list_append PySem.F.type_list_append mt_append (pe_slot cx hi) (pa_1 ha) rfl few hl (star_cons ha [] X.env) rfl)) ?_
  obtain ⟨b, vs, rfl, k1, k2⟩ := pk_list Rl.le pv
  refine ⟨_, hv, .inl ⟨rfl, vs, k1⟩, sn.e a _ d s1 h2 F I H σ _ Rl fun u I1 H1 i1 R1 d1 => ?_⟩
  obtain ⟨b', ws, ds, es, g1, g2, g3, g4, g5⟩ := chL_at h4 R1
  rw [hv] at g1
  cases g1
  unfold appD at g4
  split at g4
  · rename_i hz
    cases g4
    refine ⟨_, ws, u, rfl, rfl, g2, by rw [dps_len g3]; exact hz, ?_⟩
    exact q I1 _ σ i1 (g5 _ (dps_append g3 (.cons d1 .nil)))
  · cases g4
theorem snd_expr {R : EvK} (sn : Snd C X R) {e : Expr} {pos : Pos} (hs : swapsWith e none pos.line X.env = pure false) : SndS fr X (.Expr e pos) (bnd (R.e e) fun _ => ret .nx) := by
  intro s fl s' hm F I H σ D Rl q
  obtain ⟨d, s1, h1, h2⟩ := bnd_ok hm
  obtain ⟨rfl, rfl⟩ := ret_ok h2
  exact ofPS (ps_expr (pe_w e) hs) (sn.e e s _ _ h1 F I H σ _ Rl fun v I1 H1 i1 R1 _ => q I1 H1 σ i1 R1)
theorem sndS_if {st : Stmt} {b : Bool} {m m' : S → Res Fl} (h : b = true → SndS fr X st m) (h' : b = false → SndS fr X st m') : SndS fr X st (if b = true then m else m') := by
  cases b with
  | true => rw [if_pos rfl]; exact h rfl
  | false => rw [if_neg Bool.false_ne_true]; exact h' rfl
end
end Bw
end

set_option Elab.async false
set_option linter.all false
set_option maxRecDepth 100000
set_option maxHeartbeats 4000000
noncomputable section
namespace Bw
open PySem L2 PySem.Spec

section
variable {X : Cx} {k : Nat} {C : Cf} {fr : Bool}
theorem snd_stepS {RC : Cf → EvK} {f : Stmt → S → Res Fl} (cx : CtxOk k C X) (hp : PassesOwn (model X.prog X.w) X.A X.env X.xe) (sn : Snd C X (step RC C)) (sn0 : Snd C X (RC C)) (snb : ∀ (C' : Cf) (X' : Cx), CtxOk k C' X' → Snd C' X' (RC C')) (hf : ∀ st, SndS fr X st (f st)) (st : Stmt) :
    SndS fr X st (stepS fr (step RC C) f C st) := by
  unfold stepS
  split
  · intro s fl s' hm F I H σ D Rl q
    obtain ⟨rfl, rfl⟩ := ret_ok hm
    exact ofPS ps_pass (q I H σ (Same.refl I) Rl)
  · intro s fl s' hm F I H σ D Rl q
    obtain ⟨rfl, rfl⟩ := ret_ok hm
    exact ofPS ps_break (q I H σ (Same.refl I) Rl)
  · intro s fl s' hm F I H σ D Rl q
    obtain ⟨rfl, rfl⟩ := ret_ok hm
    exact ofPS ps_continue (q I H σ (Same.refl I) Rl)
  · refine sndS_if (fun h => sndS_fail) fun h => ?_
    subst h
    intro s fl s' hm F I H σ D Rl q
    obtain ⟨rfl, rfl⟩ := ret_ok hm
    exact ofPS ps_retN (q _ I H σ (Same.refl I) Rl Dt.non)
  · rename_i e pos
    refine sndS_if (fun h => ?_) fun h => ?_
    · subst h
      cases e with
      | Name x p =>
        cases hi : slotOf C x with
        | none => simp only [hi]; exact sndS_fail
        | some i => simp only [hi]; exact snd_retO cx hi
      | _ => exact snd_retL sn
    · subst h
      exact snd_ret sn
  · exact snd_if sn hf
  · exact sndS_if (fun h => snd_for cx hp sn hf h) fun _ => sndS_fail
  · exact snd_while hp sn hf C.wf
  · rename_i x p e q
    cases hi : locOf C x with
    | none => exact sndS_fail
    | some i =>
      simp only
      refine sndS_if (fun h => ?_) fun h => sndS_if (fun h2 => ?_) fun h2 => snd_asgN cx sn hi h
      · cases e with
        | ListComp elt gs scope pos =>
          refine sndS_if (fun hc => ?_) fun _ => sndS_fail
          rw [Bool.or_eq_true] at hc
          rcases hc with hc | hc
          · rw [Bool.and_eq_true, Bool.and_eq_true] at hc
            exact snd_asgC cx sn0 snb hi (eq_of_beq hc.1.1) hc.1.2 (by simpa using hc.2)
          · exact snd_asgF cx sn hi (swap_cell cx (eq_of_beq hc))
        | _ => exact sndS_fail
      · exact snd_asgF cx sn hi (noSwap h _ _ _)
  · rename_i tg e pos hne
    refine sndS_if (fun h => sndS_fail) fun h => ?_
    cases hw : swC C.sc tg e with
    | none => exact sndS_fail
    | some o =>
      cases o with
      | none =>
        have hst : noStar tg = true := by
          cases tg <;> first | rfl | cases hw
        exact snd_asgT1 sn h hst (swC_none cx hw)
      | some names =>
        cases e with
        | Tuple es k2 p2 => exact snd_par cx sn hw
        | _ => exact sndS_fail
  · rename_i x p op e pos
    cases hi : slotOf C x with
    | none => exact sndS_fail
    | some i =>
      cases hl : locOf C x with
      | none => exact sndS_fail
      | some j =>
        simp only
        by_cases e : i = j
        · subst e
          rw [if_pos rfl]
          exact snd_aug cx sn hi hl
        · rw [if_neg e]
          exact sndS_fail
  · intro s fl s' hm F I H σ D Rl q
    obtain ⟨rfl, rfl⟩ := ret_ok hm
    exact ofPS ps_doc (q I H σ (Same.refl I) Rl)
  · rename_i x p m ap a cp pos
    refine sndS_if (fun h => ?_) fun _ => sndS_fail
    rw [Bool.and_eq_true, Bool.and_eq_true] at h
    have hm : m = "append" := of_decide_eq_true h.1.1
    subst hm
    cases hi : slotOf C x with
    | none => exact sndS_fail
    | some i => exact snd_app cx sn hi h.1.2 h.2
  · exact snd_expr sn rfl
  · exact sndS_fail
theorem snd_EX (cx : CtxOk k C X) (hp : PassesOwn (model X.prog X.w) X.A X.env X.xe) : ∀ (n : Nat) (st : Stmt), SndS fr X st (EX fr C n st)
  | 0, _ => sndS_fail
  | n + 1, st => snd_stepS cx hp (snd_EV (n + 1) C X cx) (snd_EV n C X cx) (snd_EV n) (snd_EX cx hp n) st
end

/-! ### a def keeps its promise -/
section
variable {K : PySem.W.Frag} {I H : Hp}
theorem argsR_len : ∀ {sg : List Bool} {vs : List V} {ds : List D} {bs : List Addr}, ArgsR K I sg vs ds bs → vs.length = sg.length
  | _, _, _, _, .nil => rfl
  | _, _, _, _, .dat _ t => congrArg Nat.succ (argsR_len t)
  | _, _, _, _, .bor t => congrArg Nat.succ (argsR_len t)
theorem go_len : ∀ (sg : List Bool) (ds : List D) (m : Nat), (startS.go sg ds m).length = sg.length
  | [], _, _ => rfl
  | true :: sg, ds, m => congrArg Nat.succ (go_len sg ds (m + 1))
  | false :: sg, [], m => congrArg Nat.succ (go_len sg [] m)
  | false :: sg, _ :: ds, m => congrArg Nat.succ (go_len sg ds m)
/-- what the first slots hold -/
theorem go_at : ∀ {sg : List Bool} {vs : List V} {ds : List D} {bs pre : List Addr}, ArgsR K I sg vs ds bs → ∀ (i : Nat) (x : Sl), (startS.go sg ds pre.length)[i]? = some x →
    (∃ d v, x = .dat d ∧ vs[i]? = some v ∧ Dt K I v d) ∨ (∃ m a, x = .bor m ∧ vs[i]? = some (.ref a) ∧ (pre ++ bs)[m]? = some a)
  | _, _, _, _, pre, .nil, i, x, h => by cases h
  | _, _, _, _, pre, .dat hd t, 0, x, h => by
    cases h
    exact .inl ⟨_, _, rfl, rfl, hd⟩
  | _, _, _, _, pre, .dat hd t, i + 1, x, h => go_at (pre := pre) t i x h
  | _, _, _, _, pre, .bor (a := a) (bs := bs) t, 0, x, h => by
    cases h
    exact .inr ⟨pre.length, a, rfl, rfl, by simp⟩
  | _, _, ds, _, pre, .bor (sg := sg) (a := a) (bs := bs) t, i + 1, x, h => by
    have h' : (startS.go sg ds (pre ++ [a]).length)[i]? = some x := by
      rw [List.length_append]
      exact h
    rcases go_at (pre := pre ++ [a]) t i x h' with q | ⟨m, b, q1, q2, q3⟩
    · exact .inl q
    · exact .inr ⟨m, b, q1, q2, by rw [List.append_assoc] at q3; exact q3⟩
theorem borR_at : ∀ {bs : List Addr} {cs : List (List D)}, BorR K I H bs cs → bs.length = cs.length ∧ ∀ (n : Nat) (a : Addr), bs[n]? = some a → ∃ (vs : List V) (ds : List D), cs[n]? = some ds ∧ I a = none ∧ H a = some (.lst vs) ∧ DtAll K I vs ds
  | _, _, .nil => ⟨rfl, fun n a h => by cases h⟩
  | _, _, .cons h1 h2 h3 t => by
    obtain ⟨l, ih⟩ := borR_at t
    refine ⟨congrArg Nat.succ l, fun n a h => ?_⟩
    cases n with
    | zero => cases h; exact ⟨_, _, rfl, h1, h2, h3⟩
    | succ n => exact ih n a h
theorem borR_of : ∀ {bs : List Addr} {cs : List (List D)}, bs.length = cs.length → (∀ (n : Nat) (a : Addr), bs[n]? = some a → ∃ (vs : List V) (ds : List D), cs[n]? = some ds ∧ I a = none ∧ H a = some (.lst vs) ∧ DtAll K I vs ds) → BorR K I H bs cs
  | [], [], _, _ => .nil
  | [], _ :: _, h, _ => by cases h
  | _ :: _, [], h, _ => by cases h
  | a :: bs, c :: cs, h, q => by
    obtain ⟨vs, ds, e, h1, h2, h3⟩ := q 0 a rfl
    cases e
    exact .cons h1 h2 h3 (borR_of (Nat.succ.inj h) fun n b hb => q (n + 1) b hb)
theorem rel_start {fn : Fn} {vs : List V} {ds : List D} {bs : List Addr} {cs : List (List D)} {N : List Str} (ha : ArgsR K I fn.sig vs ds bs) (hI : Same I H) (hb : BorR K I H bs cs) (nd : bs.Nodup) (hN : fn.sig.length ≤ N.length) :
    Rel K ⟨I, H, bs⟩ I H (start N vs) (startS N.length fn.sig ds cs) := by
  have hvl := argsR_len ha
  obtain ⟨hbl, hba⟩ := borR_at hb
  have hgl := go_len fn.sig ds 0
  have at_ : ∀ (i : Nat) (x : Sl), (startS N.length fn.sig ds cs).g[i]? = some x → x = .un ∨ (∃ d v, x = .dat d ∧ (start N vs)[i]? = some (some v) ∧ Dt K I v d) ∨ (∃ m a, x = .bor m ∧ (start N vs)[i]? = some (some (V.ref a)) ∧ bs[m]? = some a) := fun i x h => by
    have h' : (startS.go fn.sig ds 0 ++ List.replicate (N.length - fn.sig.length) Sl.un)[i]? = some x := h
    by_cases hi : i < fn.sig.length
    · rw [List.getElem?_append_left (by rw [hgl]; exact hi)] at h'
      have hs : ∀ v, vs[i]? = some v → (start N vs)[i]? = some (some v) := fun v hv => by
        unfold L2.start
        rw [List.getElem?_append_left (by rw [List.length_map, hvl]; exact hi), List.getElem?_map, hv]
        rfl
      rcases go_at (pre := []) ha i x h' with ⟨d, v, q1, q2, q3⟩ | ⟨m, a, q1, q2, q3⟩
      · exact .inr (.inl ⟨d, v, q1, hs v q2, q3⟩)
      · exact .inr (.inr ⟨m, a, q1, hs _ q2, q3⟩)
    · rw [List.getElem?_append_right (by rw [hgl]; omega)] at h'
      have := List.mem_of_getElem? h'
      exact .inl (List.eq_of_mem_replicate this)
  refine ⟨hI, Same.refl I, fun a o _ h => h, fun a o _ h => h, fun i d e => ?_, fun i es e => ?_, fun i j a es fs hij e1 e2 e3 => ?_, fun i m e => ?_, hba, nd, ?_, hbl.symm⟩
  · rcases at_ i _ e with q | ⟨d', v, q1, q2, q3⟩ | ⟨m, a, q1, _⟩
    · cases q
    · cases q1; exact ⟨v, q2, q3⟩
    · cases q1
  · rcases at_ i _ e with q | ⟨d', v, q1, q2, q3⟩ | ⟨m, a, q1, _⟩
    · cases q
    · cases q1
    · cases q1
  · rcases at_ i _ e1 with q | ⟨d', v, q1, q2, q3⟩ | ⟨m, a, q1, _⟩
    · cases q
    · cases q1
    · cases q1
  · rcases at_ i _ e with q | ⟨d', v, q1, q2, q3⟩ | ⟨m', a, q1, q2, q3⟩
    · cases q
    · cases q1
    · cases q1; exact ⟨a, q2, q3⟩
  · show (startS.go fn.sig ds 0 ++ List.replicate (N.length - fn.sig.length) Sl.un).length = (start N vs).length
    unfold L2.start
    rw [List.length_append, List.length_append, List.length_replicate, List.length_replicate, List.length_map, hgl, hvl]
end
section
variable {P : Program} {w : World} {K : PySem.W.Frag} {mg : Str → Option Value} {base : Heap}
/-- what the names of a text stand for -/
structure GlOk (P : Program) (w : World) (K : PySem.W.Frag) (mg : Str → Option Value) (base : Heap) (k : Nat) (fns : Str → Nat → List Str → Option Fn) (gl : Str → Option D) (blt : Str → Bool) : Prop where
  blt : ∀ x, blt x = true → mg x = none
  gl : ∀ x d, gl x = some d → ∃ v u, mg x = some u ∧ RelV v u ∧ ∀ I, Dt K I v d
  fns : ∀ x n ks fn, fns x n ks = some fn → FnAt P w K mg base k x n ks fn
theorem fn_ok {x qual : Str} {params : Arguments} {body : List Stmt} {scope : Scope} {dvs : List V} {kws : List (Str × V)} {f : Addr} {fd : FuncData} {N ps : List Str} {k : Nat} {fn : Fn} {fns : Str → Nat → List Str → Option Fn} {gl : Str → Option D} {blt : Str → Bool}
    (F : FunD K x qual params body scope dvs kws f fd) (Sc : FnScope N ps scope) (G : GlOk P w K mg base k fns gl blt) (hl : fn.sig.length = ps.length) (hN : ps.length ≤ N.length)
    (run : ∀ ds cs r cs', fn.run ds cs = some (.val r cs') → ∃ n wf, runBody n ⟨N, scope, fns, gl, blt, wf, fun _ => true⟩ fn body ds cs = some (.val r cs')) :
    FnOk P w K mg base CX0 (k + 1) f fd ps (spF K fn) := by
  refine F.ok Sc (fun vs H Q E h => ?_) (fun cdv A outer s H vs Q E hr h => ?_)
  · obtain ⟨I, ds, bs, cs, r, cs', ha, _⟩ := h
    rw [argsR_len ha, hl]
  · obtain ⟨I, ds, bs, cs, r, cs', ha, hI, hb, nd, hrun, q⟩ := h
    obtain ⟨n, wf, e⟩ := run ds cs r cs' hrun
    refine ⟨_, (pss_w body).nox, ?_⟩
    have cx : CtxOk k ⟨N, scope, fns, gl, blt, wf, fun _ => true⟩ (cxOf CX0 P w K mg base N qual scope f cdv A outer s H E).nox :=
      ⟨rfl, rfl, Sc.kind, Sc.nd, rfl, hr, fun _ _ => rfl, G.blt, G.gl, G.fns⟩
    have Rl := rel_start (N := N) ha hI hb nd (by rw [hl]; exact hN)
    unfold runBody at e
    cases hm : seqS (EX fn.fresh ⟨N, scope, fns, gl, blt, wf, fun _ => true⟩ n) body (startS N.length fn.sig ds cs) with
    | bad => rw [hm] at e; cases e
    | exc _ _ => rw [hm] at e; cases e
    | ok fl s' =>
      rw [hm] at e
      have go := snd_seq (fr := fn.fresh) (snd_EX cx PassesOwn.never n) body _ fl s' hm ⟨I, H, bs⟩ I H (start N vs) { nx := fun _ H' => Q .non H', rt := Q } Rl
      have post : ∀ v I' H' σ', Rel K ⟨I, H, bs⟩ I' H' σ' s' → cs' = s'.b → ResR fn.fresh K H I' H' v r → Q v H' := fun v I' H' σ' R' hb' hr' => by
        refine q v I' H' R'.le0 R'.le R'.keep R'.new ?_ hr'
        rw [hb']
        exact borR_of R'.blen.symm R'.bs
      cases fl with
      | nx =>
        simp only at e
        by_cases hfr : fn.fresh = true
        · rw [if_pos hfr] at e; cases e
        · rw [if_neg hfr] at e
          cases e
          refine go fun I' H' σ' _ R' => post .non I' H' σ' R' rfl ?_
          unfold ResR
          rw [if_neg hfr]
          exact .non
      | rt d =>
        cases e
        refine go fun v I' H' σ' _ R' hret => post v I' H' σ' R' rfl ?_
        unfold RetR at hret
        unfold ResR
        by_cases hfr : fn.fresh = true
        · rw [if_pos hfr] at hret ⊢
          exact hret
        · rw [if_neg hfr] at hret ⊢
          exact hret
      | brk => cases e
      | cnt => cases e
end
end Bw
end

set_option Elab.async false
set_option linter.all false
set_option maxRecDepth 100000
set_option maxHeartbeats 4000000
noncomputable section
namespace Bw
open PySem L2 PySem.Spec

/-! ### the words of printed bodies -/
def evL : List (S → Res D) → S → Res (List D)
  | [] => ret []
  | m :: ms => bnd m fun d => bnd (evL ms) fun ds => ret (d :: ds)
inductive Ag where
  | d (m : S → Res D) | c (i : Nat)
def argsM : List Ag → S → Res (List D × List Cell)
  | [] => ret ([], [])
  | .d m :: r => bnd m fun d => bnd (argsM r) fun r => ret (d :: r.1, r.2)
  | .c i :: r => bnd (fun s => lift (cellOf i s) s) fun c => bnd (argsM r) fun r => ret (r.1, c :: r.2)
def cpr (own : List Nat) (it : S → Res (List D)) (asg : D → S → Res Unit) (tst : S → Res Bool) (elt : S → Res D) : S → Res (List D) := bnd it fun ds s => if noOwn s.g own then
  (match compL own asg tst elt ds [] { s with g := wipeG s.g own } with
    | .ok acc s' => .ok acc { s' with g := backG s.g s'.g own }
    | .exc _ _ => .bad
    | .bad => .bad) else .bad
def allD (d : D) : Option D := match d with
  | .list ds => (boolsD ds).map fun bs => .bool (bs.all id)
  | _ => none
def listD (d : D) : Option (List D) := match d with
  | .list ds => some ds
  | _ => none
def rngD (d : D) : Option (List D) := (intD d).bind fun j => if inR j then some ((List.range j.toNat).map fun i => .int (0 + (i : Nat))) else none
def rngD2 (d d' : D) : Option (List D) := (intD d).bind fun i => (intD d').bind fun j => if inR i && inR j then some ((List.range (j - i).toNat).map fun k => .int (i + (k : Nat))) else none
def enumD (d : D) : Option (List D) := match d with
  | .list xs => some ((List.range xs.length).zipWith (fun i x => .tuple [.int (i : Nat), x]) xs)
  | _ => none
def zipD (d d' : D) : Option (List D) := match d, d' with
  | .list xs, .list ys => some (List.zipWith (fun x y => .tuple [x, y]) xs ys)
  | .tuple xs, .tuple ys => some (List.zipWith (fun x y => .tuple [x, y]) xs ys)
  | _, _ => none
def asgL : List (D → S → Res Unit) → List D → S → Res Unit
  | [], [] => ret ()
  | t :: ts, d :: ds => bnd (t d) fun _ => asgL ts ds
  | _, _ => fail
def asgTup (ts : List (D → S → Res Unit)) (d : D) : S → Res Unit := match d with
  | .tuple ds => asgL ts ds
  | .list ds => asgL ts ds
  | _ => fail
def asgStar (pre : List (D → S → Res Unit)) (t : D → S → Res Unit) (d : D) : S → Res Unit := match seqD d with
  | some ds => if pre.length ≤ ds.length then bnd (asgL pre (ds.take pre.length)) fun _ => t (.list (ds.drop pre.length)) else fail
  | _ => fail
def putAt (k d : D) (ds : List D) : Option (D × List D) := (intD k).bind fun z => (ixN ds.length z).map fun m => (.none, ds.set m d)
def nmM : List Nat → List D → S → Res Unit
  | [], [] => ret ()
  | i :: is, d :: ds => bnd (setS i d) fun _ => nmM is ds
  | _, _ => fail
def appM (i : Nat) (m : S → Res D) (c : D) : S → Res Fl := match c with
  | .list _ => bnd m fun d => bnd (chL i (appD d)) fun _ => ret .nx
  | _ => fail
def rtO (i : Nat) : S → Res Fl := fun s => match s.g[i]? with
  | some (.own ds) => .ok (.rt (.list ds)) s
  | _ => .bad
def sq : List (S → Res Fl) → S → Res Fl
  | [] => ret .nx
  | m :: r => bnd m fun fl => match fl with
    | .nx => sq r
    | .rt d => ret (.rt d)
    | .brk => ret .brk
    | .cnt => ret .cnt
def fnsOf (t : List (Str × Nat × List Str × Fn)) (x : Str) (n : Nat) (ks : List Str) : Option Fn := match t with
  | [] => none
  | (y, m, js, fn) :: r => if x = y ∧ n = m ∧ ks = js then some fn else fnsOf r x n ks
def glOf (t : List (Str × D)) (x : Str) : Option D := match t with
  | [] => none
  | (y, d) :: r => if x = y then some d else glOf r x
def bltOf (t : List Str) (x : Str) : Bool := match t with
  | [] => false
  | y :: r => if x = y then true else bltOf r x

/-! ### a def's promise by its own inputs -/
open Classical in
noncomputable def mkFn {ι : Type} (sig : List Bool) (fr : Bool) (ok : ι → Prop) (ds : ι → List D) (cs : ι → List (List D)) (r : ι → D) (cs' : ι → List (List D)) : Fn :=
  ⟨sig, fr, fun a b => if h : ∃ i, ok i ∧ ds i = a ∧ cs i = b then some (.val (r h.choose) (cs' h.choose)) else none⟩
section
variable {ι : Type} {sig : List Bool} {fr : Bool} {ok : ι → Prop} {ds : ι → List D} {cs : ι → List (List D)} {r : ι → D} {cs' : ι → List (List D)}
open Classical in
theorem mkFn_run (inj : ∀ i j, ds i = ds j → cs i = cs j → i = j) {i : ι} (h : ok i) : (mkFn sig fr ok ds cs r cs').run (ds i) (cs i) = some (Rv.val (r i) (cs' i)) := by
  have hx : ∃ j, ok j ∧ ds j = ds i ∧ cs j = cs i := ⟨i, h, rfl, rfl⟩
  have e : hx.choose = i := inj _ _ hx.choose_spec.2.1 hx.choose_spec.2.2
  show (if h : ∃ j, ok j ∧ ds j = ds i ∧ cs j = cs i then some (Rv.val (r h.choose) (cs' h.choose)) else none) = _
  rw [dif_pos hx, e]
open Classical in
theorem mkFn_inv {a : List D} {b : List (List D)} {x : D} {y : List (List D)} (h : (mkFn sig fr ok ds cs r cs').run a b = some (Rv.val x y)) : ∃ i, ok i ∧ a = ds i ∧ b = cs i ∧ x = r i ∧ y = cs' i := by
  have h' : (if h : ∃ j, ok j ∧ ds j = a ∧ cs j = b then some (Rv.val (r h.choose) (cs' h.choose)) else none) = some (Rv.val x y) := h
  by_cases hx : ∃ j, ok j ∧ ds j = a ∧ cs j = b
  · rw [dif_pos hx] at h'
    cases h'
    exact ⟨hx.choose, hx.choose_spec.1, hx.choose_spec.2.1.symm, hx.choose_spec.2.2.symm, rfl, rfl⟩
  · rw [dif_neg hx] at h'
    cases h'
variable {P : Program} {w : World} {K : PySem.W.Frag} {mg : Str → Option Value} {base : Heap}
theorem fn_okM {x qual : Str} {params : Arguments} {body : List Stmt} {scope : Scope} {dvs : List V} {kws : List (Str × V)} {f : Addr} {fd : FuncData} {N ps : List Str} {k n : Nat} {fns : Str → Nat → List Str → Option Fn} {gl : Str → Option D} {blt : Str → Bool} {cb : Nat → S → Res Fl}
    (F : FunD K x qual params body scope dvs kws f fd) (Sc : FnScope N ps scope) (G : GlOk P w K mg base k fns gl blt) (hl : sig.length = ps.length) (hN : ps.length ≤ N.length)
    (hb : ∀ wf, seqS (EX fr ⟨N, scope, fns, gl, blt, wf, fun _ => true⟩ n) body = cb wf)
    (run : ∀ i, ok i → ∃ wf s', cb wf (startS N.length sig (ds i) (cs i)) = .ok (.rt (r i)) s' ∧ s'.b = cs' i) : FnOk P w K mg base CX0 (k + 1) f fd ps (spF K (mkFn sig fr ok ds cs r cs')) := by
  refine fn_ok F Sc G hl hN fun a b x y h => ?_
  obtain ⟨i, hi, rfl, rfl, rfl, rfl⟩ := mkFn_inv h
  obtain ⟨wf, s', e, e2⟩ := run i hi
  refine ⟨n, wf, ?_⟩
  unfold runBody
  have e3 := hb wf
  show (match seqS (EX fr ⟨N, scope, fns, gl, blt, wf, fun _ => true⟩ n) body (startS N.length sig (ds i) (cs i)) with
    | .ok .nx s => _
    | .ok (.rt d) s => some (Rv.val d s.b)
    | .ok _ _ => _
    | .exc x b => _
    | .bad => _) = _
  rw [e3, e, ← e2]
end

/-! ### evaluation -/
section
variable {α β : Type}
theorem bnd_ap (m : S → Res α) (f : α → S → Res β) (s : S) : bnd m f s = (match m s with | .ok a s' => f a s' | .exc x b => .exc x b | .bad => .bad) := rfl
theorem bnd_of {m : S → Res α} {f : α → S → Res β} {s s' : S} {a : α} (h : m s = .ok a s') : bnd m f s = f a s' := by rw [bnd_ap, h]
theorem ret_ap (a : α) (s : S) : ret a s = .ok a s := rfl
theorem lift_some (a : α) (s : S) : lift (some a) s = .ok a s := rfl
theorem rdS_dat {i : Nat} {s : S} {d : D} (h : s.g[i]? = some (.dat d)) : rdS i s = .ok d s := by unfold rdS; rw [h]
end
end Bw
end

set_option Elab.async false
set_option linter.all false
set_option maxRecDepth 100000
set_option maxHeartbeats 4000000
noncomputable section
namespace Bw
open PySem L2 PySem.Spec

/-! ### a def as what its printed body reckons -/
def mkF (l : Nat) (sig : List Bool) (fr : Bool) (cb : S → Res Fl) : Fn := ⟨sig, fr, fun a b => match cb (startS l sig a b) with
  | .ok .nx s => if fr then none else some (Rv.val .none s.b)
  | .ok (.rt d) s => some (Rv.val d s.b)
  | .ok _ _ => none
  | .exc x b => some (Rv.exc x b)
  | .bad => none⟩
theorem run_mkF {l : Nat} {sig : List Bool} {fr : Bool} {cb : S → Res Fl} {a : List D} {b : List (List D)} {d : D} {s' : S} (h : cb (startS l sig a b) = .ok (.rt d) s') : (mkF l sig fr cb).run a b = some (Rv.val d s'.b) := by
  show (match cb (startS l sig a b) with
  | .ok .nx s => if fr then none else some (Rv.val .none s.b)
  | .ok (.rt d) s => some (Rv.val d s.b)
  | .ok _ _ => none
  | .exc x b => some (Rv.exc x b)
  | .bad => none) = _
  rw [h]
section
variable {P : Program} {w : World} {K : PySem.W.Frag} {mg : Str → Option Value} {base : Heap}
theorem fn_okC {x qual : Str} {params : Arguments} {body : List Stmt} {scope : Scope} {dvs : List V} {kws : List (Str × V)} {f : Addr} {fd : FuncData} {N ps : List Str} {k n wf : Nat} {fns : Str → Nat → List Str → Option Fn} {gl : Str → Option D} {blt : Str → Bool} {cb : Nat → S → Res Fl} {sig : List Bool} {fr : Bool}
    (F : FunD K x qual params body scope dvs kws f fd) (Sc : FnScope N ps scope) (G : GlOk P w K mg base k fns gl blt) (hl : sig.length = ps.length) (hN : ps.length ≤ N.length)
    (hb : ∀ wf, seqS (EX fr ⟨N, scope, fns, gl, blt, wf, fun _ => true⟩ n) body = cb wf) : FnOk P w K mg base CX0 (k + 1) f fd ps (spF K (mkF N.length sig fr (cb wf))) := by
  refine fn_ok F Sc G hl hN fun a b x y h => ?_
  refine ⟨n, wf, ?_⟩
  rw [← h]
  unfold runBody
  have e3 := hb wf
  show (match seqS (EX fr ⟨N, scope, fns, gl, blt, wf, fun _ => true⟩ n) body (startS N.length sig a b) with
    | .ok .nx s => _
    | .ok (.rt d) s => _
    | .ok _ _ => _
    | .exc x b => _
    | .bad => _) = _
  rw [e3]
  rfl
end

/-! ### evaluation -/
theorem call_nil {fn : Fn} {ds : List D} {d : D} (h : fn.run ds [] = some (Rv.val d [])) (s : S) : callFn fn (ds, []) s = .ok d s := by
  show (match fn.run ds [] with | some (Rv.val d []) => Res.ok d s | _ => Res.bad) = _
  rw [h]
theorem call_bor {fn : Fn} {ds : List D} {n : Nat} {s : S} {c es : List D} {d : D} (hc : s.b[n]? = some c) (h : fn.run ds [c] = some (Rv.val d [es])) : callFn fn (ds, [.bor n]) s = .ok d { s with b := s.b.set n es } := by
  show (match s.b[n]? with | some ds' => (match fn.run ds [ds'] with | some (Rv.val d [es]) => Res.ok d (cellPut s es (.bor n)) | _ => Res.bad) | none => Res.bad) = _
  rw [hc]
  show (match fn.run ds [c] with | some (Rv.val d [es]) => Res.ok d (cellPut s es (.bor n)) | _ => Res.bad) = _
  rw [h]
  rfl
theorem call_own {fn : Fn} {ds : List D} {i : Nat} {s : S} {c es : List D} {d : D} (hc : s.g[i]? = some (.own c)) (h : fn.run ds [c] = some (Rv.val d [es])) : callFn fn (ds, [.own i]) s = .ok d { s with g := s.g.set i (.own es) } := by
  show (match (match s.g[i]? with | some (.own ds) => some ds | _ => none) with | some ds' => (match fn.run ds [ds'] with | some (Rv.val d [es]) => Res.ok d (cellPut s es (.own i)) | _ => Res.bad) | none => Res.bad) = _
  rw [hc]
  show (match fn.run ds [c] with | some (Rv.val d [es]) => Res.ok d (cellPut s es (.own i)) | _ => Res.bad) = _
  rw [h]
  rfl

section
variable {α : Type}
theorem e_ret (a : α) (s : S) : Bw.ret a s = Res.ok a s := rfl
theorem e_some (a : α) (s : S) : lift (some a) s = Res.ok a s := rfl
theorem e_sq0 (s : S) : sq [] s = Res.ok .nx s := rfl
theorem e_sq (m : S → Res Fl) (r : List (S → Res Fl)) (s : S) : sq (m :: r) s = (match m s with
  | .ok .nx s' => sq r s'
  | .ok (.rt d) s' => .ok (.rt d) s'
  | .ok .brk s' => .ok .brk s'
  | .ok .cnt s' => .ok .cnt s'
  | .exc x b => .exc x b
  | .bad => .bad) := by
  show bnd m _ s = _
  rw [bnd_ap]
  cases m s with
  | ok fl s' => cases fl <;> rfl
  | exc _ _ => rfl
  | bad => rfl
theorem e_evL0 (s : S) : evL [] s = Res.ok [] s := rfl
theorem e_evL (m : S → Res D) (r : List (S → Res D)) (s : S) : evL (m :: r) s = (match m s with
  | .ok d s' => (match evL r s' with | .ok ds s2 => .ok (d :: ds) s2 | .exc x b => .exc x b | .bad => .bad)
  | .exc x b => .exc x b
  | .bad => .bad) := by
  show bnd m _ s = _
  rw [bnd_ap]
  cases m s with
  | ok d s' =>
    show bnd (evL r) _ s' = _
    rw [bnd_ap]
    cases h : evL r s' <;> simp only [h] <;> rfl
  | exc _ _ => rfl
  | bad => rfl
theorem e_args0 (s : S) : argsM [] s = Res.ok ([], []) s := rfl
theorem e_argsD (m : S → Res D) (r : List Ag) (s : S) : argsM (.d m :: r) s = (match m s with
  | .ok d s' => (match argsM r s' with | .ok ds s2 => .ok (d :: ds.1, ds.2) s2 | .exc x b => .exc x b | .bad => .bad)
  | .exc x b => .exc x b
  | .bad => .bad) := by
  show bnd m _ s = _
  rw [bnd_ap]
  cases m s with
  | ok d s' =>
    show bnd (argsM r) _ s' = _
    rw [bnd_ap]
    cases h : argsM r s' <;> simp only [h] <;> rfl
  | exc _ _ => rfl
  | bad => rfl
theorem e_argsC (i : Nat) (r : List Ag) (s : S) : argsM (.c i :: r) s = (match cellOf i s with
  | some c => (match argsM r s with | .ok ds s2 => .ok (ds.1, c :: ds.2) s2 | .exc x b => .exc x b | .bad => .bad)
  | none => .bad) := by
  show bnd (fun s => lift (cellOf i s) s) _ s = _
  rw [bnd_ap]
  cases cellOf i s with
  | some c =>
    show bnd (argsM r) _ s = _
    rw [bnd_ap]
    cases h : argsM r s <;> rfl
  | none => rfl
theorem e_setS (i : Nat) (d : D) (g : List Sl) (b : List (List D)) : setS i d ⟨g, b⟩ = Res.ok () ⟨g.set i (.dat d), b⟩ := rfl
theorem e_setO (i : Nat) (d : List D) (g : List Sl) (b : List (List D)) : setO i d ⟨g, b⟩ = Res.ok () ⟨g.set i (.own d), b⟩ := rfl
theorem e_add (i j : Int) : binD .Add (.int i) (.int j) = some (.int (i + j)) := rfl
theorem e_sub (i j : Int) : binD .Sub (.int i) (.int j) = some (.int (i - j)) := rfl
theorem e_mul (i j : Int) : binD .Mult (.int i) (.int j) = if CMul i j ∨ CMulW i j then some (.int (i * j)) else none := rfl
theorem e_div (i j : Int) : binD .FloorDiv (.int i) (.int j) = if CDivW i j then some (.int (i / j)) else none := rfl
theorem e_mod (i j : Int) : binD .Mod (.int i) (.int j) = if 0 < j then some (.int (i % j)) else none := rfl
theorem e_pow (i j : Int) : binD .Pow (.int i) (.int j) = if CPow i j then some (.int (i ^ j.toNat)) else none := rfl
theorem e_and (i j : Int) : binD .BitAnd (.int i) (.int j) = some (.int (Builtin.bitAnd i j)) := rfl
theorem e_app (a b : List D) : binD .Add (.list a) (.list b) = if a.length + b.length ≤ sizeLine then some (.list (a ++ b)) else none := rfl
theorem e_adda (i j : Int) : augD .Add (.int i) (.int j) = some (.int (i + j)) := rfl
theorem e_suba (i j : Int) : augD .Sub (.int i) (.int j) = some (.int (i - j)) := rfl
theorem e_mula (i j : Int) : augD .Mult (.int i) (.int j) = if CMul i j then some (.int (i * j)) else none := rfl
theorem e_diva (i j : Int) : augD .FloorDiv (.int i) (.int j) = if CDivW i j then some (.int (i / j)) else none := rfl
theorem e_lt (i j : Int) : cmpD .Lt (.int i) (.int j) = some (decide (i < j)) := by rw [← ltB_eq]; rfl
theorem e_le (i j : Int) : cmpD .LtE (.int i) (.int j) = some (decide (i ≤ j)) := by rw [← leB_eq]; rfl
theorem e_gt (i j : Int) : cmpD .Gt (.int i) (.int j) = some (decide (j < i)) := by rw [← ltB_eq]; rfl
theorem e_ge (i j : Int) : cmpD .GtE (.int i) (.int j) = some (decide (j ≤ i)) := by rw [← leB_eq]; rfl
theorem e_eq (i j : Int) : cmpD .Eq (.int i) (.int j) = some (decide (i = j)) := by rw [← eqB_eq]; rfl
theorem e_ne (i j : Int) : cmpD .NotEq (.int i) (.int j) = some (!decide (i = j)) := by rw [← eqB_eq]; rfl
theorem e_eqb (i j : Bool) : cmpD .Eq (.bool i) (.bool j) = some (decide (i = j)) := rfl
theorem e_neb (i j : Bool) : cmpD .NotEq (.bool i) (.bool j) = some (!decide (i = j)) := rfl
theorem e_neg (i : Int) : negD (.int i) = some (.int (-i)) := rfl
theorem e_trb (b : Bool) : truthD (.bool b) = some b := rfl
theorem e_bool (b : Bool) : boolD (.bool b) = some b := rfl
theorem e_int (i : Int) : intD (.int i) = some i := rfl
theorem at_z (d : D) (r : List D) : atI (d :: r) 0 = some d := by
  unfold atI ixN
  simp
theorem at_o (c d : D) (r : List D) : atI (c :: d :: r) 1 = some d := by
  unfold atI ixN
  simp
  rw [if_pos (by omega)]
  rfl
theorem at_t (c d e : D) (r : List D) : atI (c :: d :: e :: r) 2 = some e := by
  unfold atI ixN
  simp
  rw [if_pos (by omega)]
  rfl
theorem at_nat (xs : List D) (n : Nat) (h : n < xs.length) : atI xs (n : Int) = some xs[n] := by
  unfold atI ixN
  simp
  rw [if_pos (by omega)]
  simp [h]
theorem e_ixt (r : List D) (i : Int) : ixD (.tuple r) (.int i) = atI r i := rfl
theorem e_ixl (r : List D) (i : Int) : ixD (.list r) (.int i) = atI r i := rfl
theorem for_inv {asg : D → S → Res Unit} {body : S → Res Fl} (I : Nat → S → Prop) : ∀ (ds : List D) (n : Nat) (s : S), I n s → (∀ i (h : i < ds.length) s, I (n + i) s → ∃ s', bnd (asg ds[i]) (fun _ => body) s = .ok .nx s' ∧ I (n + i + 1) s') → ∃ s', forL asg body ds s = .ok .nx s' ∧ I (n + ds.length) s'
  | [], n, s, h, _ => ⟨s, rfl, h⟩
  | d :: r, n, s, h, st => by
    obtain ⟨s1, e1, h1⟩ := st 0 (Nat.zero_lt_succ _) s h
    obtain ⟨s2, e2, h2⟩ := for_inv I r (n + 1) s1 h1 fun i hi s hs => by
      have := st (i + 1) (Nat.succ_lt_succ hi) s (by rw [← Nat.add_assoc, Nat.add_right_comm]; exact hs)
      rw [← Nat.add_assoc, Nat.add_right_comm n i 1] at this
      exact this
    refine ⟨s2, ?_, ?_⟩
    · show bnd (asg d) (fun _ => bnd body _) s = _
      have e1' : bnd (asg d) (fun _ => body) s = .ok .nx s1 := e1
      rw [bnd_ap] at e1' ⊢
      cases ha : asg d s with
      | ok u s' =>
        rw [ha] at e1'
        have e1'' : body s' = .ok .nx s1 := e1'
        show bnd body _ s' = _
        rw [bnd_ap, e1'']
        exact e2
      | exc _ _ => rw [ha] at e1'; cases e1'
      | bad => rw [ha] at e1'; cases e1'
    · rw [List.length_cons, Nat.add_comm r.length 1, ← Nat.add_assoc]
      exact h2
end
end Bw
end

set_option Elab.async false
set_option linter.all false
set_option maxRecDepth 100000
set_option maxHeartbeats 4000000
noncomputable section
namespace Bw
open PySem L2 PySem.Spec

theorem call_b0 {fn : Fn} {ds c es : List D} {d : D} (h : fn.run ds [c] = some (.val d [es])) (g : List Sl) : callFn fn (ds, [.bor 0]) ⟨g, [c]⟩ = .ok d ⟨g, [es]⟩ := call_bor (s := ⟨g, [c]⟩) rfl h
theorem for_step {asg : D → S → Res Unit} {body : S → Res Fl} {d : D} {r : List D} {s s1 : S} (h : bnd (asg d) (fun _ => body) s = .ok .nx s1) : forL asg body (d :: r) s = forL asg body r s1 := by
  show bnd (asg d) (fun _ => bnd body _) s = _
  rw [bnd_ap] at h ⊢
  cases ha : asg d s with
  | ok u s' =>
    rw [ha] at h
    have h' : body s' = .ok .nx s1 := h
    show bnd body _ s' = _
    rw [bnd_ap, h']
  | exc _ _ => rw [ha] at h; cases h
  | bad => rw [ha] at h; cases h
theorem comp_step {own : List Nat} {asg : D → S → Res Unit} {elt : S → Res D} {x d : D} {r acc : List D} {s s1 : S} (h : bnd (asg x) (fun _ => elt) s = .ok d s1) (hl : acc.length < sizeLine) :
    compL own asg (ret true) elt (x :: r) acc s = compL own asg (ret true) elt r (acc ++ [d]) { s1 with g := wipeG s1.g own } := by
  show bnd (asg x) (fun _ => bnd (ret true) _) s = _
  rw [bnd_ap] at h ⊢
  cases ha : asg x s with
  | ok u s' =>
    rw [ha] at h
    have h' : elt s' = .ok d s1 := h
    show bnd (ret true) _ s' = _
    rw [bnd_ap, e_ret]
    show bnd elt _ s' = _
    rw [bnd_ap, h']
    show (if acc.length < sizeLine then _ else fail : S → Res (List D)) s1 = _
    rw [if_pos hl]
  | exc _ _ => rw [ha] at h; cases h
  | bad => rw [ha] at h; cases h
/-- a comprehension whose state keeps to an invariant and whose items keep to a rule -/
theorem comp_inv {own : List Nat} {asg : D → S → Res Unit} {elt : S → Res D} (I : Nat → S → Prop) (P : D → Prop) : ∀ (ds : List D) (n : Nat) (acc : List D) (s : S), I n s → (∀ x ∈ acc, P x) → acc.length + ds.length ≤ sizeLine →
    (∀ i (h : i < ds.length) s, I (n + i) s → ∃ d s1, bnd (asg ds[i]) (fun _ => elt) s = .ok d s1 ∧ P d ∧ I (n + i + 1) { s1 with g := wipeG s1.g own }) →
    ∃ out s', compL own asg (ret true) elt ds acc s = .ok out s' ∧ I (n + ds.length) s' ∧ (∀ x ∈ out, P x) ∧ out.length = acc.length + ds.length
  | [], n, acc, s, h, ha, _, _ => ⟨acc, s, rfl, h, ha, rfl⟩
  | d :: r, n, acc, s, h, ha, hl, st => by
    obtain ⟨x, s1, e1, hx, h1⟩ := st 0 (Nat.zero_lt_succ _) s h
    obtain ⟨out, s2, e2, h2, h3, h4⟩ := comp_inv I P r (n + 1) (acc ++ [x]) _ h1 (by
      intro y hy
      rcases List.mem_append.mp hy with hy | hy
      · exact ha y hy
      · cases List.mem_singleton.mp hy; exact hx) (by simp only [List.length_append, List.length_cons, List.length_nil] at hl ⊢; omega) fun i hi s hs => by
      have := st (i + 1) (Nat.succ_lt_succ hi) s (by rw [← Nat.add_assoc, Nat.add_right_comm]; exact hs)
      rw [← Nat.add_assoc, Nat.add_right_comm n i 1] at this
      exact this
    refine ⟨out, s2, ?_, ?_, h3, ?_⟩
    · have e1' : bnd (asg d) (fun _ => elt) s = .ok x s1 := e1
      have hl' : acc.length < sizeLine := by simp only [List.length_cons] at hl; omega
      rw [comp_step e1' hl']
      exact e2
    · rw [List.length_cons, Nat.add_comm r.length 1, ← Nat.add_assoc]
      exact h2
    · rw [h4]
      simp only [List.length_append, List.length_cons, List.length_nil]
      omega
theorem bools_true : ∀ ds : List D, (∀ x ∈ ds, x = .bool true) → ∃ bs, boolsD ds = some bs ∧ bs.all id = true
  | [], _ => ⟨[], rfl, rfl⟩
  | d :: r, h => by
    cases h d (List.mem_cons_self ..)
    obtain ⟨bs, e, hb⟩ := bools_true r fun x hx => h x (List.mem_cons_of_mem _ hx)
    refine ⟨true :: bs, ?_, ?_⟩
    · show (boolsD r).map _ = _
      rw [e]; rfl
    · rw [List.all_cons, hb]; rfl
theorem all_true {ds : List D} (h : ∀ x ∈ ds, x = .bool true) : allD (.list ds) = some (.bool true) := by
  obtain ⟨bs, e, hb⟩ := bools_true ds h
  show (boolsD ds).map _ = _
  rw [e, Option.map_some, hb]
/-- all([.. for ..]), all of them true -/
theorem all_comp {own : List Nat} {it : S → Res (List D)} {asg : D → S → Res Unit} {elt : S → Res D} (I : Nat → S → Prop) {ds : List D} {s0 s : S} (hit : it s0 = .ok ds s) (ho : noOwn s.g own = true) (h0 : I 0 { s with g := wipeG s.g own }) (hl : ds.length ≤ sizeLine)
    (st : ∀ i (h : i < ds.length) s, I i s → ∃ s1, bnd (asg ds[i]) (fun _ => elt) s = .ok (.bool true) s1 ∧ I (i + 1) { s1 with g := wipeG s1.g own }) :
    ∃ out s', cpr own it asg (ret true) elt s0 = .ok out { s' with g := backG s.g s'.g own } ∧ I ds.length s' ∧ allD (.list out) = some (.bool true) := by
  obtain ⟨out, s', e, h1, h2, _⟩ := comp_inv (own := own) (asg := asg) (elt := elt) I (fun d => d = .bool true) ds 0 [] _ h0 (fun _ h => by cases h) (by rw [List.length_nil, Nat.zero_add]; exact hl) fun i hi s hs => by
    rw [Nat.zero_add] at hs
    obtain ⟨s1, e1, h1⟩ := st i hi s hs
    exact ⟨_, s1, e1, rfl, by rw [Nat.zero_add]; exact h1⟩
  refine ⟨out, s', ?_, by rw [Nat.zero_add] at h1; exact h1, all_true h2⟩
  show bnd it _ s0 = _
  rw [bnd_of hit]
  show (if noOwn s.g own = true then _ else _) = _
  rw [if_pos ho, e]
end Bw
end

set_option Elab.async false
set_option linter.all false
set_option maxRecDepth 100000
set_option maxHeartbeats 4000000
noncomputable section
namespace Bw
open PySem L2 PySem.Spec

/-! ### the ends: defs as they stand at the top -/
def Has (K : PySem.W.Frag) (x : Str) (st : Stmt) (dvs : List V) : Prop := ∃ (f : Addr) (fd : FuncData), PySem.W.nsIn K mainGlobals x = some (some (.ref f)) ∧ FunD K x x (defArgs st) (defBody st) (defScope st) dvs [] f fd
section
variable {K : PySem.W.Frag} {x : Str} {st : Stmt} {f : Addr} {oc : Value} {od an : Option Addr} {osl : Array (Option Value)} {kV doc pm cdv ct : Value}
theorem has_mk (a : PySem.W.nsIn K mainGlobals x = some (some (.ref f))) (l : K.lookup f = some ⟨oc, od, .func (PySem.W.fnOf x x (defArgs st) (defBody st) (defScope st) .none kV doc pm an cdv ct), osl⟩) (c : PySem.W.codeIn K cdv x = true) (k : PySem.W.keepIn K (.ref f) = true) : Has K x st [] :=
  ⟨f, _, a, ⟨⟨oc, od, .none, kV, doc, pm, an, cdv, ct, osl, rfl, l, c, .inl ⟨rfl, rfl⟩, .inl rfl⟩, k⟩⟩
/-- one default, a number -/
theorem has_mk1 {T : Addr} {o : Obj} {n : Nat} {i : Int} (a : PySem.W.nsIn K mainGlobals x = some (some (.ref f))) (l : K.lookup f = some ⟨oc, od, .func (PySem.W.fnOf x x (defArgs st) (defBody st) (defScope st) (.ref T) kV doc pm an cdv ct), osl⟩) (c : PySem.W.codeIn K cdv x = true) (k : PySem.W.keepIn K (.ref f) = true)
    (lT : K.lookup T = some o) {tk : Tok} (oT : o.data = .seq #[.int i tk] n) : Has K x st [.int i] :=
  ⟨f, _, a, ⟨⟨oc, od, .ref T, kV, doc, pm, an, cdv, ct, osl, rfl, l, c, .inr ⟨by simp, T, o, [.int i tk], n, rfl, lT, oT, .cons ⟨tk, rfl⟩ .nil⟩, .inl rfl⟩, k⟩⟩
end
section
variable (P : Program) (w : World) (K : PySem.W.Frag) (mg : Str → Option Value) (base : Heap)
/-- x is a def that keeps its promise, all of its parameters given -/
structure Ok (k : Nat) (x : Str) (n : Nat) (fn : Fn) : Prop where
  ex : ∃ (f : Addr) (fd : FuncData) (ps : List Str), mg x = some (.ref f) ∧ PySem.W.keepIn K (.ref f) = true ∧ FnOk P w K mg base CX0 k f fd ps (spF K fn) ∧ Binds K fd ps [] ∧ fn.sig.length = n
def AllAt (k : Nat) : List (Str × Nat × List Str × Fn) → Prop
  | [] => True
  | (x, n, ks, fn) :: r => FnAt P w K mg base k x n ks fn ∧ AllAt k r
def AllGl : List (Str × D) → Prop
  | [] => True
  | (x, d) :: r => (∃ v u, mg x = some u ∧ RelV v u ∧ ∀ I, Dt K I v d) ∧ AllGl r
def AllB : List Str → Prop
  | [] => True
  | x :: r => mg x = none ∧ AllB r
end
section
variable {P : Program} {w : World} {K : PySem.W.Frag} {mg : Str → Option Value} {base : Heap}
theorem Ok.at {j k : Nat} {x : Str} {n : Nat} {fn : Fn} (h : Ok P w K mg base j x n fn) (hj : j ≤ k) : FnAt P w K mg base k x n [] fn := by
  obtain ⟨f, fd, ps, h1, h2, h3, h4, h5⟩ := h.ex
  exact .pos h1 h2 (h3.mono hj) h4 .nil h5 fun vs H Q E h => by rw [List.append_nil]; exact h
theorem at_mono {j k : Nat} {x : Str} {n : Nat} {ks : List Str} {fn : Fn} (h : FnAt P w K mg base j x n ks fn) (hj : j ≤ k) : FnAt P w K mg base k x n ks fn := by
  cases h with
  | pos a b c d e f g => exact .pos a b (c.mono hj) d e f g
  | kw a b c d e f g i => exact .kw a b (c.mono hj) d e f g i
theorem allAt_ok {k : Nat} : ∀ {t : List (Str × Nat × List Str × Fn)}, AllAt P w K mg base k t → ∀ x n ks fn, fnsOf t x n ks = some fn → FnAt P w K mg base k x n ks fn
  | [], _, x, n, ks, fn, e => by cases e
  | (y, m, js, gn) :: r, h, x, n, ks, fn, e => by
    have e' : (if x = y ∧ n = m ∧ ks = js then some gn else fnsOf r x n ks) = some fn := e
    by_cases c : x = y ∧ n = m ∧ ks = js
    · rw [if_pos c] at e'
      obtain ⟨rfl, rfl, rfl⟩ := c
      cases e'
      exact h.1
    · rw [if_neg c] at e'
      exact allAt_ok h.2 x n ks fn e'
theorem allGl_ok : ∀ {t : List (Str × D)}, AllGl K mg t → ∀ x d, glOf t x = some d → ∃ v u, mg x = some u ∧ RelV v u ∧ ∀ I, Dt K I v d
  | [], _, x, d, e => by cases e
  | (y, m) :: r, h, x, d, e => by
    have e' : (if x = y then some m else glOf r x) = some d := e
    by_cases c : x = y
    · rw [if_pos c] at e'
      subst c
      cases e'
      exact h.1
    · rw [if_neg c] at e'
      exact allGl_ok h.2 x d e'
theorem allB_ok : ∀ {t : List Str}, AllB mg t → ∀ x, bltOf t x = true → mg x = none
  | [], _, x, e => by cases e
  | y :: r, h, x, e => by
    have e' : (if x = y then true else bltOf r x) = true := e
    by_cases c : x = y
    · subst c
      exact h.1
    · rw [if_neg c] at e'
      exact allB_ok h.2 x e'
theorem glOk_of {k : Nat} {tb : List (Str × Nat × List Str × Fn)} {gt : List (Str × D)} {bl : List Str} (h1 : AllB mg bl) (h2 : AllGl K mg gt) (h3 : AllAt P w K mg base k tb) : GlOk P w K mg base k (fnsOf tb) (glOf gt) (bltOf bl) :=
  ⟨allB_ok h1, allGl_ok h2, allAt_ok h3⟩
/-- a def without defaults -/
theorem ok_of {k n wf : Nat} {x : Str} {st : Stmt} {N ps : List Str} {tb : List (Str × Nat × List Str × Fn)} {gt : List (Str × D)} {bl : List Str} {cb : Nat → S → Res Fl} {sig : List Bool} {fr : Bool} {h : Heap} (X : K.In h) (G : h.Ns mainGlobals mg) (H : Has K x st [])
    (Sc : FnScope N ps (defScope st)) (h1 : AllB mg bl) (h2 : AllGl K mg gt) (h3 : AllAt P w K mg base k tb) (hl : sig.length = ps.length) (hN : ps.length ≤ N.length)
    (hb : ∀ wf, seqS (EX fr ⟨N, defScope st, fnsOf tb, glOf gt, bltOf bl, wf, fun _ => true⟩ n) (defBody st) = cb wf)
    (hbind : ∀ (kV doc pm : Value) (an : Option Addr) (cdv ct : Value) (us : List Value), us.length = ps.length → bindArgs (PySem.W.fnOf x x (defArgs st) (defBody st) (defScope st) .none kV doc pm an cdv ct) ⟨us, []⟩ = pure (ps.zip us)) :
    Ok P w K mg base (k + 1) x ps.length (mkF N.length sig fr (cb wf)) := by
  obtain ⟨f, fd, a, F⟩ := H
  exact ⟨f, fd, ps, PySem.W.mg_of X G a, F.kp, fn_okC F Sc (glOk_of h1 h2 h3) hl hN hb, F.bindsN hbind, hl⟩
/-- the law's own def -/
theorem law_of {k n wf : Nat} {x : Str} {st : Stmt} {N : List Str} {p : Str} {tb : List (Str × Nat × List Str × Fn)} {gt : List (Str × D)} {bl : List Str} {cb : Nat → S → Res Fl} {h : Heap} {fa : Addr} (X : K.In h) (G : h.Ns mainGlobals mg) (hfa : mg x = some (.ref fa)) (H : Has K x st [])
    (Sc : FnScope N [p] (defScope st)) (h1 : AllB mg bl) (h2 : AllGl K mg gt) (hN : 1 ≤ N.length)
    (hb : ∀ wf, seqS (EX false ⟨N, defScope st, fnsOf tb, glOf gt, bltOf bl, wf, fun _ => true⟩ n) (defBody st) = cb wf)
    (hbind : ∀ (kV doc pm : Value) (an : Option Addr) (cdv ct : Value) (us : List Value), us.length = [p].length → bindArgs (PySem.W.fnOf x x (defArgs st) (defBody st) (defScope st) .none kV doc pm an cdv ct) ⟨us, []⟩ = pure ([p].zip us)) 
    (h3 : ∀ base : Heap, K.In base → base.Ns mainGlobals mg → AllAt P w K mg base k tb) :
    ∃ fd : FuncData, (∀ (s : Shared) (v : Value), BindsTo s fd ⟨[v], []⟩ [(p, v)]) ∧ ∀ base : Heap, K.In base → base.Ns mainGlobals mg → FnOk P w K mg base CX0 (k + 1) fa fd [p] (spF K (mkF N.length [false] false (cb wf))) := by
  obtain ⟨f, fd, a, F⟩ := H
  have e := hfa.symm.trans (PySem.W.mg_of X G a)
  cases e
  exact ⟨fd, fun s v => F.bindsA hbind s [v] rfl, fun base X' G' => fn_okC F Sc (glOk_of h1 h2 (h3 base X' G')) rfl hN hb⟩
/-- every value is handed over by its name -/
theorem kb1 {x qual : Str} {params : Arguments} {body : List Stmt} {scope : Scope} {dvs : List V} {kws : List (Str × V)} {f : Addr} {fd : FuncData} {ps ks : List Str} (F : FunD K x qual params body scope dvs kws f fd) (hd : dvs ≠ [])
    (h : ∀ (T : Addr) (kV doc pm : Value) (an : Option Addr) (cdv ct : Value) (ws its : List Value), ws.length = ks.length → its.length = dvs.length →
      ∃ k, bindArgs (PySem.W.fnOf x qual params body scope (.ref T) kV doc pm an cdv ct) ⟨[], ks.zip ws⟩ = seqItems? (.ref T) >>= k ∧ k (some its.toArray) = pure (ps.zip ws)) : KBn K fd ps 0 ks (fun _ ws => ws) (fun _ zs => zs) := by
  obtain ⟨oc, od, dV, kV, doc, pm, an, cdv, ct, osl, rfl, lk, hcd, hD, hK⟩ := F.ex
  rcases hD with ⟨e, _⟩ | ⟨_, T, o, its, m, rfl, lT, oT, rT⟩
  · exact absurd e hd
  · refine ⟨fun s us ws X l1 l2 => ?_, fun _ r => r⟩
    cases us with
    | cons _ _ => cases l1
    | nil =>
      obtain ⟨k, e1, e2⟩ := h T kV doc pm an cdv ct ws its l2 rT.length.symm
      refine BindsTo.of_looks fun M => ?_
      rw [e1]
      exact looks_items X lT oT (.of_pure e2)
/-- a def of two parameters, the second with a number as its default: its calls -/
theorem ok_two {k n wf : Nat} {x p q : Str} {st : Stmt} {N : List Str} {tb : List (Str × Nat × List Str × Fn)} {gt : List (Str × D)} {bl : List Str} {cb : Nat → S → Res Fl} {i : Int} {h : Heap} (X : K.In h) (G : h.Ns mainGlobals mg) (H : Has K x st [.int i])
    (Sc : FnScope N [p, q] (defScope st)) (h1 : AllB mg bl) (h2 : AllGl K mg gt) (h3 : AllAt P w K mg base k tb) (hN : 2 ≤ N.length)
    (hb : ∀ wf, seqS (EX false ⟨N, defScope st, fnsOf tb, glOf gt, bltOf bl, wf, fun _ => true⟩ n) (defBody st) = cb wf)
    (b2 : ∀ (T : Addr) (kV doc pm : Value) (an : Option Addr) (cdv ct : Value) (us its : List Value), us.length = 2 → its.length = 1 →
      ∃ k, bindArgs (PySem.W.fnOf x x (defArgs st) (defBody st) (defScope st) (.ref T) kV doc pm an cdv ct) ⟨us, []⟩ = seqItems? (.ref T) >>= k ∧ k (some its.toArray) = pure ([p, q].zip (us ++ its.drop 1)))
    (b1 : ∀ (T : Addr) (kV doc pm : Value) (an : Option Addr) (cdv ct : Value) (us its : List Value), us.length = 1 → its.length = 1 →
      ∃ k, bindArgs (PySem.W.fnOf x x (defArgs st) (defBody st) (defScope st) (.ref T) kV doc pm an cdv ct) ⟨us, []⟩ = seqItems? (.ref T) >>= k ∧ k (some its.toArray) = pure ([p, q].zip (us ++ its.drop 0)))
    (bk : ∀ (T : Addr) (kV doc pm : Value) (an : Option Addr) (cdv ct : Value) (ws its : List Value), ws.length = [p, q].length → its.length = 1 →
      ∃ k, bindArgs (PySem.W.fnOf x x (defArgs st) (defBody st) (defScope st) (.ref T) kV doc pm an cdv ct) ⟨[], [p, q].zip ws⟩ = seqItems? (.ref T) >>= k ∧ k (some its.toArray) = pure ([p, q].zip ws)) :
    Ok P w K mg base (k + 1) x 2 (mkF N.length [false, false] false (cb wf)) ∧ FnAt P w K mg base (k + 1) x 1 [] ⟨[false], false, fun a b => (mkF N.length [false, false] false (cb wf)).run (a ++ [.int i]) b⟩ ∧
      FnAt P w K mg base (k + 1) x 0 [p, q] (mkF N.length [false, false] false (cb wf)) := by
  obtain ⟨f, fd, a, F⟩ := H
  have hf := fn_okC (wf := wf) (sig := [false, false]) (fr := false) F Sc (glOk_of h1 h2 h3) rfl hN hb
  obtain ⟨ds2, v2, c2⟩ := F.binds1 (ps := [p, q]) 2 1 (by simp) rfl b2
  cases v2
  obtain ⟨ds1, v1, c1⟩ := F.binds1 (ps := [p, q]) 1 0 (by simp) rfl b1
  refine ⟨⟨f, fd, [p, q], PySem.W.mg_of X G a, F.kp, hf, c2, rfl⟩, ?_, ?_⟩
  · refine .pos (PySem.W.mg_of X G a) F.kp hf c1 v1 rfl fun vs H Q E h => ?_
    obtain ⟨I, ds, bs, cs, r, cs', h1, h2, h3, h4, h5, h6⟩ := h
    refine ⟨I, ds ++ [.int i], bs, cs, r, cs', ?_, h2, h3, h4, h5, h6⟩
    cases h1 with
    | dat d1 t1 =>
      cases t1
      exact .dat d1 (.dat (.int _) .nil)
  · exact .kw (PySem.W.mg_of X G a) F.kp hf (kb1 F (by simp) bk) rfl (by simp) rfl fun _ _ _ _ h => h
theorem ok_none {x : Str} {st : Stmt} {ps : List Str} {sig : List Bool} {fr : Bool} {h : Heap} (X : K.In h) (G : h.Ns mainGlobals mg) (H : Has K x st []) (hl : sig.length = ps.length)
    (hbind : ∀ (kV doc pm : Value) (an : Option Addr) (cdv ct : Value) (us : List Value), us.length = ps.length → bindArgs (PySem.W.fnOf x x (defArgs st) (defBody st) (defScope st) .none kV doc pm an cdv ct) ⟨us, []⟩ = pure (ps.zip us)) :
    Ok P w K mg base 0 x ps.length ⟨sig, fr, fun _ _ => none⟩ := by
  obtain ⟨f, fd, a, F⟩ := H
  have no : ∀ vs H Q E, ¬ spF K ⟨sig, fr, fun _ _ => none⟩ vs H Q E := fun vs H Q E h => by
    obtain ⟨I, ds, bs, cs, r, cs', h1, h2, h3, h4, h5, h6⟩ := h
    cases h5
  exact ⟨f, fd, ps, PySem.W.mg_of X G a, F.kp, ⟨fun vs H Q E h => absurd h (no vs H Q E), fun A outer s H args us vs Q E _ _ _ _ h => absurd h (no vs H Q E)⟩, F.bindsN hbind, hl⟩
theorem dt_ints {I : Hp} : ∀ ns : List Int, DtAll K I (ns.map V.int) (ns.map PyData.int)
  | [] => .nil
  | n :: r => .cons (.int n) (dt_ints r)
/-- the law, asked with a script -/
theorem sp_law {fn : Fn} {H : Hp} {a : Addr} {ns : List Int} {E : XK} (hs : fn.sig = [false]) (hf : fn.fresh = false) (hS : SqL K H a (ns.map V.int)) (hr : fn.run [.list (ns.map .int)] [] = some (.val (.bool true) [])) : spF K fn [.ref a] H (fun v _ => v = .bl true) E := by
  refine ⟨H, [.list (ns.map .int)], [], [], .bool true, [], ?_, fun _ _ h => h, .nil, List.nodup_nil, hr, fun v I' H' _ _ _ _ _ hv => ?_⟩
  · rw [hs]
    exact .dat (.lst hS (dt_ints ns)) .nil
  · unfold ResR at hv
    rw [hf, if_neg (by decide)] at hv
    cases hv
    rfl
end
end Bw
end

set_option Elab.async false
set_option linter.all false
set_option maxRecDepth 100000
set_option maxHeartbeats 4000000
namespace K02
open PySem
/-! ### numbers a by 2 ^ k -/
/-- how often a number is even -/
def tz (n : Nat) : Nat := if h : n = 0 ∨ n % 2 = 1 then 0 else tz (n / 2) + 1
termination_by n
decreasing_by omega
theorem tz_odd {n : Nat} (h : n % 2 = 1) : tz n = 0 := by rw [tz, dif_pos (.inr h)]
theorem tz_even {m : Nat} (h : 0 < m) : tz (2 * m) = tz m + 1 := by
  rw [tz, dif_neg (by omega)]
  rw [show 2 * m / 2 = m by omega]
theorem and_even (m : Nat) (h : 0 < m) : (2 * m) &&& (2 * m - 1) = 2 * (m &&& (m - 1)) := by
  have h1 : ((2 * m) &&& (2 * m - 1)) / 2 = m &&& (m - 1) := by
    rw [Nat.and_div_two, show 2 * m / 2 = m by omega, show (2 * m - 1) / 2 = m - 1 by omega]
  have h2 : ((2 * m) &&& (2 * m - 1)) % 2 = 0 := by
    rw [show (2 : Nat) = 2 ^ 1 by rfl, Nat.and_mod_two_pow, show 2 ^ 1 * m % 2 ^ 1 = 0 by omega, Nat.zero_and]
  omega
theorem and_odd {n : Nat} (h : n % 2 = 1) : n &&& (n - 1) = n - 1 := by
  have h1 : (n &&& (n - 1)) / 2 = n / 2 := by
    rw [Nat.and_div_two, show (n - 1) / 2 = n / 2 by omega, Nat.and_self]
  have h2 : (n &&& (n - 1)) % 2 = 0 := by
    rw [show (2 : Nat) = 2 ^ 1 by rfl, Nat.and_mod_two_pow, show (n - 1) % 2 ^ 1 = 0 by omega, Nat.and_zero]
  omega
theorem low_tz : ∀ n : Nat, 0 < n → (n &&& (n - 1)) + 2 ^ tz n = n := fun n => by
  induction n using Nat.strongRecOn with
  | _ n ih =>
    intro hn
    by_cases ho : n % 2 = 1
    · rw [and_odd ho, tz_odd ho]
      omega
    · obtain ⟨m, rfl⟩ : ∃ m, n = 2 * m := ⟨n / 2, by omega⟩
      have hm : 0 < m := by omega
      have := ih m (by omega) hm
      rw [and_even m hm, tz_even hm, Nat.pow_succ]
      omega
theorem tz_dvd : ∀ n : Nat, 0 < n → 2 ^ tz n ∣ n := fun n => by
  induction n using Nat.strongRecOn with
  | _ n ih =>
    intro hn
    by_cases ho : n % 2 = 1
    · rw [tz_odd ho]
      exact ⟨n, by omega⟩
    · obtain ⟨m, rfl⟩ : ∃ m, n = 2 * m := ⟨n / 2, by omega⟩
      have hm : 0 < m := by omega
      obtain ⟨c, hc⟩ := ih m (by omega) hm
      rw [tz_even hm, Nat.pow_succ]
      exact ⟨c, by rw [Nat.mul_comm (2 ^ tz m) 2, Nat.mul_assoc, ← hc]⟩
theorem low_int {a : Int} (h : a ≠ 0) : Builtin.bitAnd a (-a) = 2 ^ tz a.natAbs := by
  have hn : 0 < a.natAbs := by omega
  have q := low_tz a.natAbs hn
  have e : ((2 : Int) ^ tz a.natAbs) = ((2 ^ tz a.natAbs : Nat) : Int) := by simp
  rw [e]
  by_cases hp : 0 < a
  · rw [PyProof.Rows.bitAnd_pn (by omega) (by omega)]
    unfold Builtin.bitNot
    rw [show a.toNat = a.natAbs by omega, show (- -a - 1).toNat = a.natAbs - 1 by omega]
    omega
  · rw [PyProof.Rows.bitAnd_np (by omega) (by omega)]
    unfold Builtin.bitNot
    rw [show (-a).toNat = a.natAbs by omega, show (-a - 1).toNat = a.natAbs - 1 by omega]
    omega
/-- in lowest terms -/
def sh (a : Int) (k : Nat) : Nat := min (tz a.natAbs) k
def nrm (a : Int) (k : Nat) : Int × Nat := if a = 0 then (0, 0) else (a / 2 ^ sh a k, k - sh a k)
theorem two_pos (k : Nat) : (0 : Int) < 2 ^ k := by
  have : (0 : Nat) < 2 ^ k := Nat.two_pow_pos k
  have e : ((2 : Int) ^ k) = ((2 ^ k : Nat) : Int) := by simp
  omega
theorem two_add (i j : Nat) : (2 : Int) ^ (i + j) = 2 ^ i * 2 ^ j := Int.pow_add 2 i j
theorem sh_le (a : Int) (k : Nat) : sh a k ≤ k := Nat.min_le_right _ _
theorem sh_dvd {a : Int} (k : Nat) (h : a ≠ 0) : a / 2 ^ sh a k * 2 ^ sh a k = a := by
  have hn : 0 < a.natAbs := by omega
  obtain ⟨c, hc⟩ := tz_dvd a.natAbs hn
  have hd : ((2 : Int) ^ sh a k) ∣ a := by
    have h1 : (2 : Nat) ^ sh a k ∣ a.natAbs := Nat.dvd_trans (Nat.pow_dvd_pow 2 (Nat.min_le_left _ _)) ⟨c, hc⟩
    have e : ((2 : Int) ^ sh a k) = ((2 ^ sh a k : Nat) : Int) := by simp
    rw [e]
    exact Int.ofNat_dvd_left.mpr h1
  exact Int.ediv_mul_cancel hd
/-- its worth stays -/
theorem nrm_val (a : Int) (k : Nat) : (nrm a k).1 * 2 ^ k = a * 2 ^ (nrm a k).2 := by
  unfold nrm
  by_cases h : a = 0
  · rw [if_pos h, h]; simp
  · rw [if_neg h]
    show a / 2 ^ sh a k * 2 ^ k = a * 2 ^ (k - sh a k)
    have e : k = sh a k + (k - sh a k) := by have := sh_le a k; omega
    have e2 : (2 : Int) ^ k = 2 ^ sh a k * 2 ^ (k - sh a k) := by rw [← two_add, ← e]
    rw [e2, ← Int.mul_assoc, sh_dvd k h]
theorem nrm_le (a : Int) (k : Nat) : (nrm a k).2 ≤ k := by
  unfold nrm
  by_cases h : a = 0
  · rw [if_pos h]; exact Nat.zero_le _
  · rw [if_neg h]; exact Nat.sub_le _ _
theorem nrm_abs (a : Int) (k : Nat) : (nrm a k).1.natAbs ≤ a.natAbs := by
  unfold nrm
  by_cases h : a = 0
  · rw [if_pos h]; exact Nat.zero_le _
  · rw [if_neg h]
    show (a / 2 ^ sh a k).natAbs ≤ a.natAbs
    have q := sh_dvd k h
    have p := two_pos (sh a k)
    have := congrArg Int.natAbs q
    rw [Int.natAbs_mul] at this
    have p2 : 1 ≤ ((2 : Int) ^ sh a k).natAbs := by omega
    rw [← this]
    exact Nat.le_mul_of_pos_right _ p2
/-- what min and // come to -/
theorem min_low {a : Int} (k : Nat) (h : a ≠ 0) : (if Builtin.bitAnd a (-a) < 2 ^ k then Builtin.bitAnd a (-a) else 2 ^ k) = 2 ^ sh a k := by
  rw [low_int h]
  unfold sh
  by_cases hl : tz a.natAbs < k
  · have : (2 : Nat) ^ tz a.natAbs < 2 ^ k := Nat.pow_lt_pow_right (by decide) hl
    have e1 : ((2 : Int) ^ k) = ((2 ^ k : Nat) : Int) := by simp
    have e2 : ((2 : Int) ^ tz a.natAbs) = ((2 ^ tz a.natAbs : Nat) : Int) := by simp
    rw [if_pos (by omega), Nat.min_eq_left (Nat.le_of_lt hl)]
  · have : (2 : Nat) ^ k ≤ 2 ^ tz a.natAbs := Nat.pow_le_pow_right (by decide) (by omega)
    have e1 : ((2 : Int) ^ k) = ((2 ^ k : Nat) : Int) := by simp
    have e2 : ((2 : Int) ^ tz a.natAbs) = ((2 ^ tz a.natAbs : Nat) : Int) := by simp
    rw [if_neg (by omega), Nat.min_eq_right (by omega)]
theorem two_div {k t : Nat} (h : t ≤ k) : (2 : Int) ^ k / 2 ^ t = 2 ^ (k - t) := by
  have e : k = (k - t) + t := by omega
  have e2 : (2 : Int) ^ k = 2 ^ (k - t) * 2 ^ t := by rw [← two_add, ← e]
  rw [e2, Int.mul_ediv_cancel _ (Int.ne_of_gt (two_pos t))]
def add (x y : Int × Nat) : Int × Nat := nrm (x.1 * 2 ^ y.2 + y.1 * 2 ^ x.2) (x.2 + y.2)
def sub (x y : Int × Nat) : Int × Nat := nrm (x.1 * 2 ^ y.2 - y.1 * 2 ^ x.2) (x.2 + y.2)
def mul (x y : Int × Nat) : Int × Nat := nrm (x.1 * y.1) (x.2 + y.2)
def below (x y : Int × Nat) : Bool := decide (x.1 * 2 ^ y.2 < y.1 * 2 ^ x.2)
def cut (x : Int × Nat) (f : Nat) : Int × Nat := nrm (x.1 * 2 ^ f / 2 ^ x.2) f
theorem below_self (x : Int × Nat) : below x x = false := decide_eq_false (Int.lt_irrefl _)
/-- the cut is no more than the number -/
theorem cut_not_above (x : Int × Nat) (f : Nat) : below x (cut x f) = false := by
  refine decide_eq_false fun h => ?_
  have q := nrm_val (x.1 * 2 ^ f / 2 ^ x.2) f
  generalize hA : x.1 * 2 ^ f / 2 ^ x.2 = A at q
  have hx : (cut x f) = nrm A f := by unfold cut; rw [hA]
  rw [hx] at h
  generalize hp : (nrm A f).1 = p at h q
  generalize hj : (nrm A f).2 = j at h q
  -- h : x.1 * 2^j < p * 2^x.2, q : p * 2^f = A * 2^j
  have pf := two_pos f
  have pj := two_pos j
  have pi := two_pos x.2
  have h1 : x.1 * 2 ^ j * 2 ^ f < p * 2 ^ x.2 * 2 ^ f := Int.mul_lt_mul_of_pos_right h pf
  have h2 : p * 2 ^ x.2 * 2 ^ f = A * 2 ^ x.2 * 2 ^ j := by rw [Int.mul_right_comm, q, Int.mul_right_comm]
  have h3 : A * 2 ^ x.2 ≤ x.1 * 2 ^ f := by rw [← hA]; exact Int.ediv_mul_le _ (Int.ne_of_gt pi)
  have h4 : A * 2 ^ x.2 * 2 ^ j ≤ x.1 * 2 ^ f * 2 ^ j := Int.mul_le_mul_of_nonneg_right h3 (Int.le_of_lt pj)
  rw [h2] at h1
  rw [Int.mul_right_comm] at h1
  omega
theorem nrm_one (f : Nat) : nrm 1 f = (1, f) := by
  have : tz 1 = 0 := tz_odd rfl
  unfold nrm sh
  rw [if_neg (by decide)]
  show ((1 : Int) / 2 ^ min (tz 1) f, f - min (tz 1) f) = (1, f)
  rw [this, Nat.zero_min]
  simp
/-- by less than a part -/
theorem cut_near (x : Int × Nat) (f : Nat) : below x (add (cut x f) (nrm 1 f)) = true := by
  refine decide_eq_true ?_
  have q := nrm_val (x.1 * 2 ^ f / 2 ^ x.2) f
  generalize hA : x.1 * 2 ^ f / 2 ^ x.2 = A at q
  have hx : (cut x f) = nrm A f := by unfold cut; rw [hA]
  rw [hx, nrm_one]
  generalize hp : (nrm A f).1 = p at q
  generalize hj : (nrm A f).2 = j at q
  have hadd : add (nrm A f) (1, f) = nrm (p * 2 ^ f + 1 * 2 ^ j) (j + f) := by
    unfold add
    rw [hp, hj]
  rw [hadd]
  have q2 := nrm_val (p * 2 ^ f + 1 * 2 ^ j) (j + f)
  generalize (nrm (p * 2 ^ f + 1 * 2 ^ j) (j + f)).1 = r at q2 ⊢
  generalize (nrm (p * 2 ^ f + 1 * 2 ^ j) (j + f)).2 = m at q2 ⊢
  -- q2 : r * 2^(j+f) = (p * 2^f + 2^j) * 2^m = (A + 1) * 2^j * 2^m
  have pf := two_pos f
  have pj := two_pos j
  have pm := two_pos m
  have pi := two_pos x.2
  have q3 : r * 2 ^ (j + f) = (A + 1) * 2 ^ j * 2 ^ m := by
    rw [q2, q, Int.one_mul, Int.add_mul, Int.add_mul, Int.add_mul, Int.one_mul]
  have h3 : x.1 * 2 ^ f < (A + 1) * 2 ^ x.2 := by
    rw [← hA]
    have := Int.lt_ediv_add_one_mul_self (x.1 * 2 ^ f) pi
    exact this
  have h4 : x.1 * 2 ^ f * (2 ^ j * 2 ^ m) < (A + 1) * 2 ^ x.2 * (2 ^ j * 2 ^ m) := Int.mul_lt_mul_of_pos_right h3 (Int.mul_pos pj pm)
  have h5 : x.1 * 2 ^ m * 2 ^ (j + f) < r * 2 ^ x.2 * 2 ^ (j + f) := by
    have e1 : x.1 * 2 ^ m * 2 ^ (j + f) = x.1 * 2 ^ f * (2 ^ j * 2 ^ m) := by rw [two_add]; simp only [Int.mul_comm, Int.mul_left_comm, Int.mul_assoc]
    have e2 : r * 2 ^ x.2 * 2 ^ (j + f) = (A + 1) * 2 ^ x.2 * (2 ^ j * 2 ^ m) := by
      rw [Int.mul_right_comm, q3]
      simp only [Int.mul_comm, Int.mul_left_comm, Int.mul_assoc]
    rw [e1, e2]
    exact h4
  exact Int.lt_of_mul_lt_mul_right h5 (Int.le_of_lt (two_pos (j + f)))
end K02

set_option Elab.async false
set_option linter.all false
set_option maxRecDepth 100000
set_option maxHeartbeats 4000000
noncomputable section
namespace K02
open PySem L2 PySem.Spec Bw
def topS (i : Nat) : Stmt := PySem.Challenge.pw_brookworks_k02_numbers_reckoned.main.body.getD i (.Pass ⟨0,0,0,0⟩)
/-! halvings_of -/
abbrev N_halv : List Str := ["parts", "found"]
abbrev P_halv : List Str := ["parts"]
theorem sc_halv : FnScope N_halv P_halv (defScope (topS 1)) := ⟨rfl, rfl, rfl, by decide +kernel, rfl, by decide +kernel, by decide +kernel⟩
def tb_halv : List (Str × Nat × List Str × Fn) := []
def bl_halv : List Str := []
def gt_halv : List (Str × D) := []
def C_halv (wf : Nat) : Cf := ⟨N_halv, defScope (topS 1), fnsOf (tb_halv), glOf gt_halv, bltOf bl_halv, wf, fun _ => true⟩
def wc1_halv (wf : Nat) : S → Res Bool := bnd (bnd (rdS 0) fun x => bnd (ret (.int 2)) fun y => lift (binD .Mod x y)) fun x => bnd (ret (.int 0)) fun y => lift (cmpD .Eq x y)
def lb2_halv (wf : Nat) : S → Res Fl := sq [
    bnd (rdS 0) fun d => bnd (ret (.int 2)) fun d' => bnd (lift (augD .FloorDiv d d')) fun r => bnd (setS 0 r) fun _ => ret .nx, 
    bnd (rdS 1) fun d => bnd (ret (.int 1)) fun d' => bnd (lift (augD .Add d d')) fun r => bnd (setS 1 r) fun _ => ret .nx]
def cb_halv (wf : Nat) : S → Res Fl := sq [
    bnd (ret (.int 0)) fun d => bnd (setS 1 d) fun _ => ret .nx, 
    whileL (wc1_halv wf) (lb2_halv wf) wf, 
    bnd (rdS 1) fun d => ret (.rt d)]
theorem bd_halv (wf : Nat) : seqS (EX false (C_halv wf) 30) (defBody (topS 1)) = cb_halv wf := by kernel_rfl
def f_halv : Fn := mkF 2 [false] false (cb_halv 400)

/-! power_of -/
abbrev N_pow : List Str := ["figures", "found", "turn"]
abbrev P_pow : List Str := ["figures"]
theorem sc_pow : FnScope N_pow P_pow (defScope (topS 2)) := ⟨rfl, rfl, rfl, by decide +kernel, rfl, by decide +kernel, by decide +kernel⟩
def tb_pow : List (Str × Nat × List Str × Fn) := []
def bl_pow : List Str := ["range"]
def gt_pow : List (Str × D) := []
def C_pow (wf : Nat) : Cf := ⟨N_pow, defScope (topS 2), fnsOf (tb_pow), glOf gt_pow, bltOf bl_pow, wf, fun _ => true⟩
def lb1_pow (wf : Nat) : S → Res Fl := sq [
    bnd (rdS 1) fun d => bnd (ret (.int 2)) fun d' => bnd (lift (augD .Mult d d')) fun r => bnd (setS 1 r) fun _ => ret .nx]
def cb_pow (wf : Nat) : S → Res Fl := sq [
    bnd (ret (.int 1)) fun d => bnd (setS 1 d) fun _ => ret .nx, 
    bnd (bnd (rdS 0) fun d => lift (rngD d)) fun ds => forL (fun x => setS 2 (x)) (lb1_pow wf) ds, 
    bnd (rdS 1) fun d => ret (.rt d)]
theorem bd_pow (wf : Nat) : seqS (EX false (C_pow wf) 30) (defBody (topS 2)) = cb_pow wf := by kernel_rfl
def f_pow : Fn := mkF 3 [false] false (cb_pow 400)

/-! num_of -/
abbrev N_numof : List Str := ["number", "parts", "common"]
abbrev P_numof : List Str := ["number", "parts"]
theorem sc_numof : FnScope N_numof P_numof (defScope (topS 3)) := ⟨rfl, rfl, rfl, by decide +kernel, rfl, by decide +kernel, by decide +kernel⟩
def tb_numof : List (Str × Nat × List Str × Fn) := []
def bl_numof : List Str := ["min"]
def gt_numof : List (Str × D) := []
def C_numof (wf : Nat) : Cf := ⟨N_numof, defScope (topS 3), fnsOf (tb_numof), glOf gt_numof, bltOf bl_numof, wf, fun _ => true⟩
def cb_numof (wf : Nat) : S → Res Fl := sq [
    bnd (bnd (rdS 0) fun x => bnd (ret (.int 0)) fun y => lift (cmpD .Eq x y)) fun k => if k then (sq [
    bnd (bnd (evL [ret (.int 0), ret (.int 1)]) fun ds => lift (if ds.length ≤ sizeLine then some (.tuple ds) else none)) fun d => ret (.rt d)]) else (sq []), 
    bnd (bnd (rdS 1) fun d => bnd (bnd (rdS 0) fun x => bnd (bnd (rdS 0) fun x => lift (negD x)) fun y => lift (binD .BitAnd x y)) fun d' => lift ((intD d).bind fun i => (intD d').map fun j => .int (if j < i then j else i))) fun d => bnd (setS 2 d) fun _ => ret .nx, 
    bnd (bnd (evL [bnd (rdS 0) fun x => bnd (rdS 2) fun y => lift (binD .FloorDiv x y), bnd (rdS 1) fun x => bnd (rdS 2) fun y => lift (binD .FloorDiv x y)]) fun ds => lift (if ds.length ≤ sizeLine then some (.tuple ds) else none)) fun d => ret (.rt d)]
theorem bd_numof (wf : Nat) : seqS (EX false (C_numof wf) 30) (defBody (topS 3)) = cb_numof wf := by kernel_rfl
def f_numof : Fn := mkF 3 [false, false] false (cb_numof 400)
def f_numof1 : Fn := ⟨[false], false, fun a b => f_numof.run (a ++ [.int 1]) b⟩

/-! sum_of -/
abbrev N_sumof : List Str := ["one", "other"]
abbrev P_sumof : List Str := ["one", "other"]
theorem sc_sumof : FnScope N_sumof P_sumof (defScope (topS 4)) := ⟨rfl, rfl, rfl, by decide +kernel, rfl, by decide +kernel, by decide +kernel⟩
def tb_sumof : List (Str × Nat × List Str × Fn) := [("num_of", 2, [], f_numof)]
def bl_sumof : List Str := []
def gt_sumof : List (Str × D) := []
def C_sumof (wf : Nat) : Cf := ⟨N_sumof, defScope (topS 4), fnsOf (tb_sumof), glOf gt_sumof, bltOf bl_sumof, wf, fun _ => true⟩
def cb_sumof (wf : Nat) : S → Res Fl := sq [
    bnd (bnd (argsM [.d (bnd (bnd (bnd (pkS 0) fun _ => bnd (ret (.int 0)) fun k => bnd (pkS 0) fun c => lift (ixD c k)) fun x => bnd (bnd (pkS 1) fun _ => bnd (ret (.int 1)) fun k => bnd (pkS 1) fun c => lift (ixD c k)) fun y => lift (binD .Mult x y)) fun x => bnd (bnd (bnd (pkS 1) fun _ => bnd (ret (.int 0)) fun k => bnd (pkS 1) fun c => lift (ixD c k)) fun x => bnd (bnd (pkS 0) fun _ => bnd (ret (.int 1)) fun k => bnd (pkS 0) fun c => lift (ixD c k)) fun y => lift (binD .Mult x y)) fun y => lift (binD .Add x y)), .d (bnd (bnd (pkS 0) fun _ => bnd (ret (.int 1)) fun k => bnd (pkS 0) fun c => lift (ixD c k)) fun x => bnd (bnd (pkS 1) fun _ => bnd (ret (.int 1)) fun k => bnd (pkS 1) fun c => lift (ixD c k)) fun y => lift (binD .Mult x y))]) (callFn f_numof)) fun d => ret (.rt d)]
theorem bd_sumof (wf : Nat) : seqS (EX false (C_sumof wf) 30) (defBody (topS 4)) = cb_sumof wf := by kernel_rfl
def f_sumof : Fn := mkF 2 [false, false] false (cb_sumof 400)

/-! less_of -/
abbrev N_lessof : List Str := ["one", "other"]
abbrev P_lessof : List Str := ["one", "other"]
theorem sc_lessof : FnScope N_lessof P_lessof (defScope (topS 5)) := ⟨rfl, rfl, rfl, by decide +kernel, rfl, by decide +kernel, by decide +kernel⟩
def tb_lessof : List (Str × Nat × List Str × Fn) := [("num_of", 2, [], f_numof)]
def bl_lessof : List Str := []
def gt_lessof : List (Str × D) := []
def C_lessof (wf : Nat) : Cf := ⟨N_lessof, defScope (topS 5), fnsOf (tb_lessof), glOf gt_lessof, bltOf bl_lessof, wf, fun _ => true⟩
def cb_lessof (wf : Nat) : S → Res Fl := sq [
    bnd (bnd (argsM [.d (bnd (bnd (bnd (pkS 0) fun _ => bnd (ret (.int 0)) fun k => bnd (pkS 0) fun c => lift (ixD c k)) fun x => bnd (bnd (pkS 1) fun _ => bnd (ret (.int 1)) fun k => bnd (pkS 1) fun c => lift (ixD c k)) fun y => lift (binD .Mult x y)) fun x => bnd (bnd (bnd (pkS 1) fun _ => bnd (ret (.int 0)) fun k => bnd (pkS 1) fun c => lift (ixD c k)) fun x => bnd (bnd (pkS 0) fun _ => bnd (ret (.int 1)) fun k => bnd (pkS 0) fun c => lift (ixD c k)) fun y => lift (binD .Mult x y)) fun y => lift (binD .Sub x y)), .d (bnd (bnd (pkS 0) fun _ => bnd (ret (.int 1)) fun k => bnd (pkS 0) fun c => lift (ixD c k)) fun x => bnd (bnd (pkS 1) fun _ => bnd (ret (.int 1)) fun k => bnd (pkS 1) fun c => lift (ixD c k)) fun y => lift (binD .Mult x y))]) (callFn f_numof)) fun d => ret (.rt d)]
theorem bd_lessof (wf : Nat) : seqS (EX false (C_lessof wf) 30) (defBody (topS 5)) = cb_lessof wf := by kernel_rfl
def f_lessof : Fn := mkF 2 [false, false] false (cb_lessof 400)

/-! times_of -/
abbrev N_timesof : List Str := ["one", "other"]
abbrev P_timesof : List Str := ["one", "other"]
theorem sc_timesof : FnScope N_timesof P_timesof (defScope (topS 6)) := ⟨rfl, rfl, rfl, by decide +kernel, rfl, by decide +kernel, by decide +kernel⟩
def tb_timesof : List (Str × Nat × List Str × Fn) := [("num_of", 2, [], f_numof)]
def bl_timesof : List Str := []
def gt_timesof : List (Str × D) := []
def C_timesof (wf : Nat) : Cf := ⟨N_timesof, defScope (topS 6), fnsOf (tb_timesof), glOf gt_timesof, bltOf bl_timesof, wf, fun _ => true⟩
def cb_timesof (wf : Nat) : S → Res Fl := sq [
    bnd (bnd (argsM [.d (bnd (bnd (pkS 0) fun _ => bnd (ret (.int 0)) fun k => bnd (pkS 0) fun c => lift (ixD c k)) fun x => bnd (bnd (pkS 1) fun _ => bnd (ret (.int 0)) fun k => bnd (pkS 1) fun c => lift (ixD c k)) fun y => lift (binD .Mult x y)), .d (bnd (bnd (pkS 0) fun _ => bnd (ret (.int 1)) fun k => bnd (pkS 0) fun c => lift (ixD c k)) fun x => bnd (bnd (pkS 1) fun _ => bnd (ret (.int 1)) fun k => bnd (pkS 1) fun c => lift (ixD c k)) fun y => lift (binD .Mult x y))]) (callFn f_numof)) fun d => ret (.rt d)]
theorem bd_timesof (wf : Nat) : seqS (EX false (C_timesof wf) 30) (defBody (topS 6)) = cb_timesof wf := by kernel_rfl
def f_timesof : Fn := mkF 2 [false, false] false (cb_timesof 400)

/-! is_below -/
abbrev N_isbelow : List Str := ["one", "other"]
abbrev P_isbelow : List Str := ["one", "other"]
theorem sc_isbelow : FnScope N_isbelow P_isbelow (defScope (topS 7)) := ⟨rfl, rfl, rfl, by decide +kernel, rfl, by decide +kernel, by decide +kernel⟩
def tb_isbelow : List (Str × Nat × List Str × Fn) := []
def bl_isbelow : List Str := []
def gt_isbelow : List (Str × D) := []
def C_isbelow (wf : Nat) : Cf := ⟨N_isbelow, defScope (topS 7), fnsOf (tb_isbelow), glOf gt_isbelow, bltOf bl_isbelow, wf, fun _ => true⟩
def cb_isbelow (wf : Nat) : S → Res Fl := sq [
    bnd (bnd (bnd (bnd (bnd (pkS 0) fun _ => bnd (ret (.int 0)) fun k => bnd (pkS 0) fun c => lift (ixD c k)) fun x => bnd (bnd (pkS 1) fun _ => bnd (ret (.int 1)) fun k => bnd (pkS 1) fun c => lift (ixD c k)) fun y => lift (binD .Mult x y)) fun x => bnd (bnd (bnd (pkS 1) fun _ => bnd (ret (.int 0)) fun k => bnd (pkS 1) fun c => lift (ixD c k)) fun x => bnd (bnd (pkS 0) fun _ => bnd (ret (.int 1)) fun k => bnd (pkS 0) fun c => lift (ixD c k)) fun y => lift (binD .Mult x y)) fun y => lift (cmpD .Lt x y)) fun k => ret (.bool k)) fun d => ret (.rt d)]
theorem bd_isbelow (wf : Nat) : seqS (EX false (C_isbelow wf) 30) (defBody (topS 7)) = cb_isbelow wf := by kernel_rfl
def f_isbelow : Fn := mkF 2 [false, false] false (cb_isbelow 400)

/-! least_num -/
abbrev N_leastnum : List Str := ["some", "found", "others", "one"]
abbrev P_leastnum : List Str := ["some"]
theorem sc_leastnum : FnScope N_leastnum P_leastnum (defScope (topS 8)) := ⟨rfl, rfl, rfl, by decide +kernel, rfl, by decide +kernel, by decide +kernel⟩
def tb_leastnum : List (Str × Nat × List Str × Fn) := [("is_below", 2, [], f_isbelow)]
def bl_leastnum : List Str := []
def gt_leastnum : List (Str × D) := []
def C_leastnum (wf : Nat) : Cf := ⟨N_leastnum, defScope (topS 8), fnsOf (tb_leastnum), glOf gt_leastnum, bltOf bl_leastnum, wf, fun _ => true⟩
def lb1_leastnum (wf : Nat) : S → Res Fl := sq [
    bnd (bnd (bnd (argsM [.d (rdS 3), .d (rdS 1)]) (callFn f_isbelow)) fun d => lift (truthD d)) fun k => if k then (sq [
    bnd (rdS 3) fun d => bnd (setS 1 d) fun _ => ret .nx]) else (sq [])]
def cb_leastnum (wf : Nat) : S → Res Fl := sq [
    bnd (rdS 0) fun d => bnd (asgStar [fun y => setS 1 (y)] (fun y => setS 2 (y)) (d)) fun _ => ret .nx, 
    bnd (bnd (rdS 2) fun d => lift (seqD d)) fun ds => forL (fun x => setS 3 (x)) (lb1_leastnum wf) ds, 
    bnd (rdS 1) fun d => ret (.rt d)]
theorem bd_leastnum (wf : Nat) : seqS (EX false (C_leastnum wf) 30) (defBody (topS 8)) = cb_leastnum wf := by kernel_rfl
def f_leastnum : Fn := mkF 4 [false] false (cb_leastnum 400)

/-! most_num -/
abbrev N_mostnum : List Str := ["some", "found", "others", "one"]
abbrev P_mostnum : List Str := ["some"]
theorem sc_mostnum : FnScope N_mostnum P_mostnum (defScope (topS 9)) := ⟨rfl, rfl, rfl, by decide +kernel, rfl, by decide +kernel, by decide +kernel⟩
def tb_mostnum : List (Str × Nat × List Str × Fn) := [("is_below", 2, [], f_isbelow)]
def bl_mostnum : List Str := []
def gt_mostnum : List (Str × D) := []
def C_mostnum (wf : Nat) : Cf := ⟨N_mostnum, defScope (topS 9), fnsOf (tb_mostnum), glOf gt_mostnum, bltOf bl_mostnum, wf, fun _ => true⟩
def lb1_mostnum (wf : Nat) : S → Res Fl := sq [
    bnd (bnd (bnd (argsM [.d (rdS 1), .d (rdS 3)]) (callFn f_isbelow)) fun d => lift (truthD d)) fun k => if k then (sq [
    bnd (rdS 3) fun d => bnd (setS 1 d) fun _ => ret .nx]) else (sq [])]
def cb_mostnum (wf : Nat) : S → Res Fl := sq [
    bnd (rdS 0) fun d => bnd (asgStar [fun y => setS 1 (y)] (fun y => setS 2 (y)) (d)) fun _ => ret .nx, 
    bnd (bnd (rdS 2) fun d => lift (seqD d)) fun ds => forL (fun x => setS 3 (x)) (lb1_mostnum wf) ds, 
    bnd (rdS 1) fun d => ret (.rt d)]
theorem bd_mostnum (wf : Nat) : seqS (EX false (C_mostnum wf) 30) (defBody (topS 9)) = cb_mostnum wf := by kernel_rfl
def f_mostnum : Fn := mkF 4 [false] false (cb_mostnum 400)

/-! figures_of -/
abbrev N_figs : List Str := ["one"]
abbrev P_figs : List Str := ["one"]
theorem sc_figs : FnScope N_figs P_figs (defScope (topS 10)) := ⟨rfl, rfl, rfl, by decide +kernel, rfl, by decide +kernel, by decide +kernel⟩
def tb_figs : List (Str × Nat × List Str × Fn) := [("halvings_of", 1, [], f_halv)]
def bl_figs : List Str := []
def gt_figs : List (Str × D) := []
def C_figs (wf : Nat) : Cf := ⟨N_figs, defScope (topS 10), fnsOf (tb_figs), glOf gt_figs, bltOf bl_figs, wf, fun _ => true⟩
def cb_figs (wf : Nat) : S → Res Fl := sq [
    bnd (bnd (argsM [.d (bnd (pkS 0) fun _ => bnd (ret (.int 1)) fun k => bnd (pkS 0) fun c => lift (ixD c k))]) (callFn f_halv)) fun d => ret (.rt d)]
theorem bd_figs (wf : Nat) : seqS (EX false (C_figs wf) 30) (defBody (topS 10)) = cb_figs wf := by kernel_rfl
def f_figs : Fn := mkF 1 [false] false (cb_figs 400)

/-! cut_of -/
abbrev N_cutof : List Str := ["one", "figures", "parts"]
abbrev P_cutof : List Str := ["one", "figures"]
theorem sc_cutof : FnScope N_cutof P_cutof (defScope (topS 11)) := ⟨rfl, rfl, rfl, by decide +kernel, rfl, by decide +kernel, by decide +kernel⟩
def tb_cutof : List (Str × Nat × List Str × Fn) := [("power_of", 1, [], f_pow), ("num_of", 2, [], f_numof)]
def bl_cutof : List Str := []
def gt_cutof : List (Str × D) := []
def C_cutof (wf : Nat) : Cf := ⟨N_cutof, defScope (topS 11), fnsOf (tb_cutof), glOf gt_cutof, bltOf bl_cutof, wf, fun _ => true⟩
def cb_cutof (wf : Nat) : S → Res Fl := sq [
    bnd (bnd (argsM [.d (rdS 1)]) (callFn f_pow)) fun d => bnd (setS 2 d) fun _ => ret .nx, 
    bnd (bnd (argsM [.d (bnd (bnd (bnd (pkS 0) fun _ => bnd (ret (.int 0)) fun k => bnd (pkS 0) fun c => lift (ixD c k)) fun x => bnd (rdS 2) fun y => lift (binD .Mult x y)) fun x => bnd (bnd (pkS 0) fun _ => bnd (ret (.int 1)) fun k => bnd (pkS 0) fun c => lift (ixD c k)) fun y => lift (binD .FloorDiv x y)), .d (rdS 2)]) (callFn f_numof)) fun d => ret (.rt d)]
theorem bd_cutof (wf : Nat) : seqS (EX false (C_cutof wf) 30) (defBody (topS 11)) = cb_cutof wf := by kernel_rfl
def f_cutof : Fn := mkF 3 [false, false] false (cb_cutof 400)

/-! _law_dip -/
abbrev N_dip : List Str := ["_law_script", "_law_k", "_law_cell"]
abbrev P_dip : List Str := ["_law_script", "_law_k"]
theorem sc_dip : FnScope N_dip P_dip (defScope (topS 13)) := ⟨rfl, rfl, rfl, by decide +kernel, rfl, by decide +kernel, by decide +kernel⟩
def tb_dip : List (Str × Nat × List Str × Fn) := []
def bl_dip : List Str := ["len", "abs", "int"]
def gt_dip : List (Str × D) := []
def C_dip (wf : Nat) : Cf := ⟨N_dip, defScope (topS 13), fnsOf (tb_dip), glOf gt_dip, bltOf bl_dip, wf, fun _ => true⟩
def cb_dip (wf : Nat) : S → Res Fl := sq [
    bnd (bnd (bnd (rdS 1) fun x => bnd (bnd (pkS 0) fun c => lift (lenD c)) fun y => lift (cmpD .Lt x y)) fun k => if k then (bnd (pkS 0) fun _ => bnd (rdS 1) fun k => bnd (pkS 0) fun c => lift (ixD c k)) else (ret (.int 0))) fun d => bnd (setS 2 d) fun _ => ret .nx, 
    bnd (bnd (evL [bnd (bnd (rdS 2) fun d => lift ((intD d).map fun i => .int (absI i))) fun x => bnd (bnd (bnd (bnd (bnd (rdS 2) fun d => lift ((intD d).map fun i => .int (absI i))) fun x => bnd (bnd (ret (.int 10)) fun x => bnd (ret (.int 18)) fun y => lift (binD .Pow x y)) fun y => lift (cmpD .GtE x y)) fun k => ret (.bool k)) fun d => lift (intOf d)) fun y => lift (binD .Mult x y), bnd (bnd (bnd (rdS 2) fun x => bnd (ret (.int 2305843009213693951)) fun y => lift (binD .Mod x y)) fun x => bnd (bnd (ret (.int 39373)) fun x => bnd (rdS 1) fun y => lift (binD .Mult x y)) fun y => lift (binD .Add x y)) fun x => bnd (ret (.int 17)) fun y => lift (binD .Add x y), ret (.int 0)]) fun ds => lift (if ds.length ≤ sizeLine then some ds else none)) fun ds => ret (.rt (.list ds))]
theorem bd_dip (wf : Nat) : seqS (EX true (C_dip wf) 30) (defBody (topS 13)) = cb_dip wf := by kernel_rfl
def f_dip : Fn := mkF 3 [false, false] true (cb_dip 400)

/-! _law_take -/
abbrev N_take : List Str := ["_law_box", "_law_many", "_law_found", "_law_once", "_law_pair"]
abbrev P_take : List Str := ["_law_box", "_law_many"]
theorem sc_take : FnScope N_take P_take (defScope (topS 14)) := ⟨rfl, rfl, rfl, by decide +kernel, rfl, by decide +kernel, by decide +kernel⟩
def tb_take : List (Str × Nat × List Str × Fn) := []
def bl_take : List Str := []
def gt_take : List (Str × D) := []
def C_take (wf : Nat) : Cf := ⟨N_take, defScope (topS 14), fnsOf (tb_take), glOf gt_take, bltOf bl_take, wf, fun _ => true⟩
def cb_take (wf : Nat) : S → Res Fl := sq [
    bnd (bnd (bnd (pkS 0) fun _ => bnd (ret (.int 0)) fun k => bnd (pkS 0) fun c => lift (ixD c k)) fun x => bnd (ret (.int 0)) fun y => lift (cmpD .Gt x y)) fun k => if k then (sq [
    bnd (bnd (bnd (pkS 0) fun _ => bnd (ret (.int 0)) fun k => bnd (pkS 0) fun c => lift (ixD c k)) fun x => bnd (rdS 1) fun y => lift (binD .Mod x y)) fun d => bnd (setS 2 d) fun _ => ret .nx, 
    bnd (bnd (bnd (pkS 0) fun _ => bnd (ret (.int 0)) fun k => bnd (pkS 0) fun c => lift (ixD c k)) fun x => bnd (rdS 1) fun y => lift (binD .FloorDiv x y)) fun d => bnd (bnd (pkS 0) fun _ => bnd (ret (.int 0)) fun k => bnd (chL 0 (putAt k (d))) fun _ => ret ()) fun _ => ret .nx, 
    bnd (rdS 2) fun d => ret (.rt d)]) else (sq []), 
    bnd (bnd (bnd (pkS 0) fun _ => bnd (ret (.int 2)) fun k => bnd (pkS 0) fun c => lift (ixD c k)) fun x => bnd (ret (.int 1)) fun y => lift (binD .Add x y)) fun d => bnd (bnd (pkS 0) fun _ => bnd (ret (.int 2)) fun k => bnd (chL 0 (putAt k (d))) fun _ => ret ()) fun _ => ret .nx, 
    bnd (bnd (bnd (bnd (bnd (pkS 0) fun _ => bnd (ret (.int 1)) fun k => bnd (pkS 0) fun c => lift (ixD c k)) fun x => bnd (bnd (ret (.int 39373)) fun x => bnd (bnd (pkS 0) fun _ => bnd (ret (.int 2)) fun k => bnd (pkS 0) fun c => lift (ixD c k)) fun y => lift (binD .Mult x y)) fun y => lift (binD .Add x y)) fun x => bnd (ret (.int 5)) fun y => lift (binD .Pow x y)) fun x => bnd (ret (.int 2147483647)) fun y => lift (binD .Mod x y)) fun d => bnd (setS 3 d) fun _ => ret .nx, 
    bnd (bnd (bnd (bnd (bnd (rdS 3) fun x => bnd (bnd (pkS 0) fun _ => bnd (ret (.int 2)) fun k => bnd (pkS 0) fun c => lift (ixD c k)) fun y => lift (binD .Add x y)) fun x => bnd (bnd (bnd (pkS 0) fun _ => bnd (ret (.int 1)) fun k => bnd (pkS 0) fun c => lift (ixD c k)) fun x => bnd (ret (.int 1000003)) fun y => lift (binD .FloorDiv x y)) fun y => lift (binD .Add x y)) fun x => bnd (bnd (bnd (bnd (rdS 3) fun x => bnd (ret (.int 40009)) fun y => lift (binD .Mod x y)) fun x => bnd (ret (.int 7)) fun y => lift (binD .Add x y)) fun x => bnd (bnd (pkS 0) fun _ => bnd (ret (.int 2)) fun k => bnd (pkS 0) fun c => lift (ixD c k)) fun y => lift (binD .Add x y)) fun y => lift (binD .Mult x y)) fun x => bnd (ret (.int 2147483629)) fun y => lift (binD .Mod x y)) fun d => bnd (setS 4 d) fun _ => ret .nx, 
    bnd (bnd (bnd (bnd (bnd (bnd (rdS 4) fun x => bnd (ret (.int 48271)) fun y => lift (binD .Mult x y)) fun x => bnd (rdS 3) fun y => lift (binD .Add x y)) fun x => bnd (ret (.int 2147483587)) fun y => lift (binD .Mod x y)) fun x => bnd (ret (.int 64)) fun y => lift (binD .FloorDiv x y)) fun x => bnd (rdS 1) fun y => lift (binD .Mod x y)) fun d => ret (.rt d)]
theorem bd_take (wf : Nat) : seqS (EX false (C_take wf) 30) (defBody (topS 14)) = cb_take wf := by kernel_rfl
def f_take : Fn := mkF 5 [true, false] false (cb_take 400)

/-! _law_folded -/
abbrev N_folded : List Str := ["_law_script", "_law_many", "_law_cells", "_law_k", "_law_cell"]
abbrev P_folded : List Str := ["_law_script", "_law_many"]
theorem sc_folded : FnScope N_folded P_folded (defScope (topS 15)) := ⟨rfl, rfl, rfl, by decide +kernel, rfl, by decide +kernel, by decide +kernel⟩
def tb_folded : List (Str × Nat × List Str × Fn) := []
def bl_folded : List Str := ["list", "enumerate"]
def gt_folded : List (Str × D) := []
def C_folded (wf : Nat) : Cf := ⟨N_folded, defScope (topS 15), fnsOf (tb_folded), glOf gt_folded, bltOf bl_folded, wf, fun _ => true⟩
def lb1_folded (wf : Nat) : S → Res Fl := sq [
    bnd (bnd (bnd (pkS 2) fun _ => bnd (bnd (rdS 3) fun x => bnd (rdS 1) fun y => lift (binD .Mod x y)) fun k => bnd (pkS 2) fun c => lift (ixD c k)) fun x => bnd (bnd (rdS 4) fun x => bnd (bnd (rdS 3) fun x => bnd (ret (.int 2)) fun y => lift (binD .Add x y)) fun y => lift (binD .Mult x y)) fun y => lift (binD .Add x y)) fun d => bnd (bnd (pkS 2) fun _ => bnd (bnd (rdS 3) fun x => bnd (rdS 1) fun y => lift (binD .Mod x y)) fun k => bnd (chL 2 (putAt k (d))) fun _ => ret ()) fun _ => ret .nx]
def cb_folded (wf : Nat) : S → Res Fl := sq [
    bnd (bnd (bnd (pkS 0) fun _ => bnd (ret none) fun l => bnd (bnd (rdS 1) fun d => lift ((intD d).map some)) fun h => bnd (pkS 0) fun c => lift (sliceD c l h)) fun c => lift (seqD c)) fun ds => bnd (setO 2 ds) fun _ => ret .nx, 
    bnd (bnd (bnd (pkS 0) fun _ => bnd (bnd (rdS 1) fun d => lift ((intD d).map some)) fun l => bnd (bnd (ret (.int 63)) fun d => lift ((intD d).map some)) fun h => bnd (pkS 0) fun c => lift (sliceD c l h)) fun d => lift (enumD d)) fun ds => forL (fun x => asgTup [fun y => setS 3 (y), fun y => setS 4 (y)] (x)) (lb1_folded wf) ds, 
    rtO 2]
theorem bd_folded (wf : Nat) : seqS (EX true (C_folded wf) 30) (defBody (topS 15)) = cb_folded wf := by kernel_rfl
def f_folded : Fn := mkF 5 [false, false] true (cb_folded 400)

/-! _law_one_of -/
abbrev N_oneof : List Str := ["_law_box", "_law_pool"]
abbrev P_oneof : List Str := ["_law_box", "_law_pool"]
theorem sc_oneof : FnScope N_oneof P_oneof (defScope (topS 16)) := ⟨rfl, rfl, rfl, by decide +kernel, rfl, by decide +kernel, by decide +kernel⟩
def tb_oneof : List (Str × Nat × List Str × Fn) := [("_law_take", 2, [], f_take)]
def bl_oneof : List Str := ["len"]
def gt_oneof : List (Str × D) := []
def C_oneof (wf : Nat) : Cf := ⟨N_oneof, defScope (topS 16), fnsOf (tb_oneof), glOf gt_oneof, bltOf bl_oneof, wf, fun _ => true⟩
def cb_oneof (wf : Nat) : S → Res Fl := sq [
    bnd (bnd (pkS 1) fun _ => bnd (bnd (argsM [.c 0, .d (bnd (pkS 1) fun c => lift (lenD c))]) (callFn f_take)) fun k => bnd (pkS 1) fun c => lift (ixD c k)) fun d => ret (.rt d)]
theorem bd_oneof (wf : Nat) : seqS (EX false (C_oneof wf) 30) (defBody (topS 16)) = cb_oneof wf := by kernel_rfl
def f_oneof : Fn := mkF 2 [true, false] false (cb_oneof 400)

/-! _law_same -/
abbrev N_same : List Str := ["_law_found", "_law_due", "_law_key", "_law_one", "_law_two"]
abbrev P_same : List Str := ["_law_found", "_law_due"]
theorem sc_same : FnScope N_same P_same (defScope (topS 17)) := ⟨rfl, rfl, rfl, by decide +kernel, rfl, by decide +kernel, by decide +kernel⟩
def tb_same (fs : Fn) : List (Str × Nat × List Str × Fn) := [("_law_same", 2, [], fs)]
def bl_same : List Str := ["isinstance", "dict", "sorted", "all", "list", "tuple", "len", "zip", "bool", "str", "int"]
def gt_same : List (Str × D) := []
def C_same (fs : Fn) (wf : Nat) : Cf := ⟨N_same, defScope (topS 17), fnsOf (tb_same fs), glOf gt_same, bltOf bl_same, wf, fun _ => true⟩
def it1_same (fs : Fn) (wf : Nat) : S → Res (List D) := bnd (rdS 1) fun d => lift (seqD d)
def ce2_same (fs : Fn) (wf : Nat) : S → Res D := bnd (argsM [.d (bnd (pkS 0) fun _ => bnd (rdS 2) fun k => bnd (pkS 0) fun c => lift (ixD c k)), .d (bnd (pkS 1) fun _ => bnd (rdS 2) fun k => bnd (pkS 1) fun c => lift (ixD c k))]) (callFn fs)
def it3_same (fs : Fn) (wf : Nat) : S → Res (List D) := bnd (rdS 0) fun d => bnd (rdS 1) fun d' => lift (zipD d d')
def ce4_same (fs : Fn) (wf : Nat) : S → Res D := bnd (argsM [.d (rdS 3), .d (rdS 4)]) (callFn fs)
def cb_same (fs : Fn) (wf : Nat) : S → Res Fl := sq [
    bnd (bnd (bnd (pkS 1) fun d => lift (some (.bool (isiD (tyD d) "dict")))) fun d => lift (truthD d)) fun k => if k then (sq [
    bnd (bnd (bnd (bnd (bnd (pkS 0) fun d => lift (some (.bool (isiD (tyD d) "dict")))) fun d => lift (truthD d)) fun c => ret (!c)) fun c => if c then ret true else (bnd (fail) fun x => bnd (fail) fun y => lift (cmpD .NotEq x y))) fun k => if k then (sq [
    bnd (ret (.bool false)) fun d => ret (.rt d)]) else (sq []), 
    bnd (bnd (bnd (cpr [2] (it1_same fs wf) (fun x => setS 2 (x)) (ret true) (ce2_same fs wf)) fun ds => ret (.list ds)) fun d => lift (allD d)) fun d => ret (.rt d)]) else (sq []), 
    bnd (bnd (bnd (pkS 1) fun d => lift (some (.bool (isiD (tyD d) "list" || (isiD (tyD d) "tuple" || (false)))))) fun d => lift (truthD d)) fun k => if k then (sq [
    bnd (bnd (bnd (bnd (pkS 0) fun d => lift (some (.bool (isiD (tyD d) "list")))) fun x => bnd (bnd (pkS 1) fun d => lift (some (.bool (isiD (tyD d) "list")))) fun y => lift (cmpD .NotEq x y)) fun c => if c then ret true else (bnd (bnd (pkS 0) fun d => lift (some (.bool (isiD (tyD d) "tuple")))) fun x => bnd (bnd (pkS 1) fun d => lift (some (.bool (isiD (tyD d) "tuple")))) fun y => lift (cmpD .NotEq x y))) fun k => if k then (sq [
    bnd (ret (.bool false)) fun d => ret (.rt d)]) else (sq []), 
    bnd (bnd (bnd (bnd (bnd (pkS 0) fun c => lift (lenD c)) fun x => bnd (bnd (pkS 1) fun c => lift (lenD c)) fun y => lift (cmpD .Eq x y)) fun k => ret (.bool k)) fun x => bnd (lift (boolD x)) fun c => if c then (bnd (bnd (cpr [3, 4] (it3_same fs wf) (fun x => asgTup [fun y => setS 3 (y), fun y => setS 4 (y)] (x)) (ret true) (ce4_same fs wf)) fun ds => ret (.list ds)) fun d => lift (allD d)) else ret (.bool false)) fun d => ret (.rt d)]) else (sq []), 
    bnd (bnd (bnd (rdS 1) fun x => bnd (ret .none) fun y => lift (cmpD .Is x y)) fun c => if c then ret true else (bnd (rdS 0) fun x => bnd (ret .none) fun y => lift (cmpD .Is x y))) fun k => if k then (sq [
    bnd (bnd (bnd (bnd (rdS 1) fun x => bnd (ret .none) fun y => lift (cmpD .Is x y)) fun k => ret (.bool k)) fun x => bnd (lift (boolD x)) fun c => if c then (bnd (bnd (rdS 0) fun x => bnd (ret .none) fun y => lift (cmpD .Is x y)) fun k => ret (.bool k)) else ret (.bool false)) fun d => ret (.rt d)]) else (sq []), 
    bnd (bnd (bnd (bnd (pkS 1) fun d => lift (some (.bool (isiD (tyD d) "bool")))) fun d => lift (truthD d)) fun c => if c then ret true else (bnd (bnd (pkS 1) fun d => lift (some (.bool (isiD (tyD d) "str")))) fun d => lift (truthD d))) fun k => if k then (sq [
    bnd (bnd (bnd (bnd (bnd (pkS 0) fun d => lift (some (.bool (isiD (tyD d) "bool")))) fun x => bnd (bnd (pkS 1) fun d => lift (some (.bool (isiD (tyD d) "bool")))) fun y => lift (cmpD .Eq x y)) fun k => ret (.bool k)) fun x => bnd (lift (boolD x)) fun c => if c then (bnd (bnd (rdS 0) fun x => bnd (pkS 1) fun y => lift (cmpD .Eq x y)) fun k => ret (.bool k)) else ret (.bool false)) fun d => ret (.rt d)]) else (sq []), 
    bnd (bnd (bnd (pkS 0) fun d => lift (some (.bool (isiD (tyD d) "int")))) fun x => bnd (lift (boolD x)) fun c => if c then (bnd (bnd (bnd (pkS 0) fun d => lift (some (.bool (isiD (tyD d) "bool")))) fun x => lift ((boolD x).map fun c => .bool (!c))) fun x => bnd (lift (boolD x)) fun c => if c then (bnd (bnd (rdS 0) fun x => bnd (pkS 1) fun y => lift (cmpD .Eq x y)) fun k => ret (.bool k)) else ret (.bool false)) else ret (.bool false)) fun d => ret (.rt d)]
theorem bd_same (fs : Fn) (hs : fs.fresh = false) (hg : fs.sig = [false, false]) (wf : Nat) : seqS (EX false (C_same fs wf) 30) (defBody (topS 17)) = cb_same fs wf := by
  obtain ⟨_, _, _⟩ := fs
  cases hs
  cases hg
  kernel_rfl
def f_same : Nat → Fn
  | 0 => ⟨[false, false], false, fun _ _ => none⟩
  | n + 1 => mkF 5 [false, false] false (cb_same (f_same n) 400)

/-! _law_num -/
abbrev N_lnum : List Str := ["_law_top", "_law_low", "_law_common"]
abbrev P_lnum : List Str := ["_law_top", "_law_low"]
theorem sc_lnum : FnScope N_lnum P_lnum (defScope (topS 18)) := ⟨rfl, rfl, rfl, by decide +kernel, rfl, by decide +kernel, by decide +kernel⟩
def tb_lnum : List (Str × Nat × List Str × Fn) := []
def bl_lnum : List Str := ["min"]
def gt_lnum : List (Str × D) := []
def C_lnum (wf : Nat) : Cf := ⟨N_lnum, defScope (topS 18), fnsOf (tb_lnum), glOf gt_lnum, bltOf bl_lnum, wf, fun _ => true⟩
def cb_lnum (wf : Nat) : S → Res Fl := sq [
    bnd (bnd (rdS 0) fun x => bnd (ret (.int 0)) fun y => lift (cmpD .Eq x y)) fun k => if k then (sq [
    bnd (bnd (evL [ret (.int 0), ret (.int 1)]) fun ds => lift (if ds.length ≤ sizeLine then some (.tuple ds) else none)) fun d => ret (.rt d)]) else (sq []), 
    bnd (bnd (rdS 1) fun d => bnd (bnd (rdS 0) fun x => bnd (bnd (ret (.int 0)) fun x => bnd (rdS 0) fun y => lift (binD .Sub x y)) fun y => lift (binD .BitAnd x y)) fun d' => lift ((intD d).bind fun i => (intD d').map fun j => .int (if j < i then j else i))) fun d => bnd (setS 2 d) fun _ => ret .nx, 
    bnd (bnd (evL [bnd (rdS 0) fun x => bnd (rdS 2) fun y => lift (binD .FloorDiv x y), bnd (rdS 1) fun x => bnd (rdS 2) fun y => lift (binD .FloorDiv x y)]) fun ds => lift (if ds.length ≤ sizeLine then some (.tuple ds) else none)) fun d => ret (.rt d)]
theorem bd_lnum (wf : Nat) : seqS (EX false (C_lnum wf) 30) (defBody (topS 18)) = cb_lnum wf := by kernel_rfl
def f_lnum : Fn := mkF 3 [false, false] false (cb_lnum 400)

/-! _law_add -/
abbrev N_ladd : List Str := ["_law_one", "_law_two"]
abbrev P_ladd : List Str := ["_law_one", "_law_two"]
theorem sc_ladd : FnScope N_ladd P_ladd (defScope (topS 19)) := ⟨rfl, rfl, rfl, by decide +kernel, rfl, by decide +kernel, by decide +kernel⟩
def tb_ladd : List (Str × Nat × List Str × Fn) := [("_law_num", 2, [], f_lnum)]
def bl_ladd : List Str := []
def gt_ladd : List (Str × D) := []
def C_ladd (wf : Nat) : Cf := ⟨N_ladd, defScope (topS 19), fnsOf (tb_ladd), glOf gt_ladd, bltOf bl_ladd, wf, fun _ => true⟩
def cb_ladd (wf : Nat) : S → Res Fl := sq [
    bnd (bnd (argsM [.d (bnd (bnd (bnd (pkS 0) fun _ => bnd (ret (.int 0)) fun k => bnd (pkS 0) fun c => lift (ixD c k)) fun x => bnd (bnd (pkS 1) fun _ => bnd (ret (.int 1)) fun k => bnd (pkS 1) fun c => lift (ixD c k)) fun y => lift (binD .Mult x y)) fun x => bnd (bnd (bnd (pkS 1) fun _ => bnd (ret (.int 0)) fun k => bnd (pkS 1) fun c => lift (ixD c k)) fun x => bnd (bnd (pkS 0) fun _ => bnd (ret (.int 1)) fun k => bnd (pkS 0) fun c => lift (ixD c k)) fun y => lift (binD .Mult x y)) fun y => lift (binD .Add x y)), .d (bnd (bnd (pkS 0) fun _ => bnd (ret (.int 1)) fun k => bnd (pkS 0) fun c => lift (ixD c k)) fun x => bnd (bnd (pkS 1) fun _ => bnd (ret (.int 1)) fun k => bnd (pkS 1) fun c => lift (ixD c k)) fun y => lift (binD .Mult x y))]) (callFn f_lnum)) fun d => ret (.rt d)]
theorem bd_ladd (wf : Nat) : seqS (EX false (C_ladd wf) 30) (defBody (topS 19)) = cb_ladd wf := by kernel_rfl
def f_ladd : Fn := mkF 2 [false, false] false (cb_ladd 400)

/-! _law_sub -/
abbrev N_lsub : List Str := ["_law_one", "_law_two"]
abbrev P_lsub : List Str := ["_law_one", "_law_two"]
theorem sc_lsub : FnScope N_lsub P_lsub (defScope (topS 20)) := ⟨rfl, rfl, rfl, by decide +kernel, rfl, by decide +kernel, by decide +kernel⟩
def tb_lsub : List (Str × Nat × List Str × Fn) := [("_law_add", 2, [], f_ladd)]
def bl_lsub : List Str := []
def gt_lsub : List (Str × D) := []
def C_lsub (wf : Nat) : Cf := ⟨N_lsub, defScope (topS 20), fnsOf (tb_lsub), glOf gt_lsub, bltOf bl_lsub, wf, fun _ => true⟩
def cb_lsub (wf : Nat) : S → Res Fl := sq [
    bnd (bnd (argsM [.d (rdS 0), .d (bnd (evL [bnd (ret (.int 0)) fun x => bnd (bnd (pkS 1) fun _ => bnd (ret (.int 0)) fun k => bnd (pkS 1) fun c => lift (ixD c k)) fun y => lift (binD .Sub x y), bnd (pkS 1) fun _ => bnd (ret (.int 1)) fun k => bnd (pkS 1) fun c => lift (ixD c k)]) fun ds => lift (if ds.length ≤ sizeLine then some (.tuple ds) else none))]) (callFn f_ladd)) fun d => ret (.rt d)]
theorem bd_lsub (wf : Nat) : seqS (EX false (C_lsub wf) 30) (defBody (topS 20)) = cb_lsub wf := by kernel_rfl
def f_lsub : Fn := mkF 2 [false, false] false (cb_lsub 400)

/-! _law_mul -/
abbrev N_lmul : List Str := ["_law_one", "_law_two"]
abbrev P_lmul : List Str := ["_law_one", "_law_two"]
theorem sc_lmul : FnScope N_lmul P_lmul (defScope (topS 21)) := ⟨rfl, rfl, rfl, by decide +kernel, rfl, by decide +kernel, by decide +kernel⟩
def tb_lmul : List (Str × Nat × List Str × Fn) := [("_law_num", 2, [], f_lnum)]
def bl_lmul : List Str := []
def gt_lmul : List (Str × D) := []
def C_lmul (wf : Nat) : Cf := ⟨N_lmul, defScope (topS 21), fnsOf (tb_lmul), glOf gt_lmul, bltOf bl_lmul, wf, fun _ => true⟩
def cb_lmul (wf : Nat) : S → Res Fl := sq [
    bnd (bnd (argsM [.d (bnd (bnd (pkS 0) fun _ => bnd (ret (.int 0)) fun k => bnd (pkS 0) fun c => lift (ixD c k)) fun x => bnd (bnd (pkS 1) fun _ => bnd (ret (.int 0)) fun k => bnd (pkS 1) fun c => lift (ixD c k)) fun y => lift (binD .Mult x y)), .d (bnd (bnd (pkS 0) fun _ => bnd (ret (.int 1)) fun k => bnd (pkS 0) fun c => lift (ixD c k)) fun x => bnd (bnd (pkS 1) fun _ => bnd (ret (.int 1)) fun k => bnd (pkS 1) fun c => lift (ixD c k)) fun y => lift (binD .Mult x y))]) (callFn f_lnum)) fun d => ret (.rt d)]
theorem bd_lmul (wf : Nat) : seqS (EX false (C_lmul wf) 30) (defBody (topS 21)) = cb_lmul wf := by kernel_rfl
def f_lmul : Fn := mkF 2 [false, false] false (cb_lmul 400)

/-! _law_below -/
abbrev N_lbelow : List Str := ["_law_one", "_law_two"]
abbrev P_lbelow : List Str := ["_law_one", "_law_two"]
theorem sc_lbelow : FnScope N_lbelow P_lbelow (defScope (topS 22)) := ⟨rfl, rfl, rfl, by decide +kernel, rfl, by decide +kernel, by decide +kernel⟩
def tb_lbelow : List (Str × Nat × List Str × Fn) := []
def bl_lbelow : List Str := []
def gt_lbelow : List (Str × D) := []
def C_lbelow (wf : Nat) : Cf := ⟨N_lbelow, defScope (topS 22), fnsOf (tb_lbelow), glOf gt_lbelow, bltOf bl_lbelow, wf, fun _ => true⟩
def cb_lbelow (wf : Nat) : S → Res Fl := sq [
    bnd (bnd (bnd (bnd (bnd (pkS 0) fun _ => bnd (ret (.int 0)) fun k => bnd (pkS 0) fun c => lift (ixD c k)) fun x => bnd (bnd (pkS 1) fun _ => bnd (ret (.int 1)) fun k => bnd (pkS 1) fun c => lift (ixD c k)) fun y => lift (binD .Mult x y)) fun x => bnd (bnd (bnd (pkS 1) fun _ => bnd (ret (.int 0)) fun k => bnd (pkS 1) fun c => lift (ixD c k)) fun x => bnd (bnd (pkS 0) fun _ => bnd (ret (.int 1)) fun k => bnd (pkS 0) fun c => lift (ixD c k)) fun y => lift (binD .Mult x y)) fun y => lift (cmpD .Lt x y)) fun k => ret (.bool k)) fun d => ret (.rt d)]
theorem bd_lbelow (wf : Nat) : seqS (EX false (C_lbelow wf) 30) (defBody (topS 22)) = cb_lbelow wf := by kernel_rfl
def f_lbelow : Fn := mkF 2 [false, false] false (cb_lbelow 400)

/-! _law_floor -/
abbrev N_lfloor : List Str := ["_law_one", "_law_places", "_law_unit", "_law_turn"]
abbrev P_lfloor : List Str := ["_law_one", "_law_places"]
theorem sc_lfloor : FnScope N_lfloor P_lfloor (defScope (topS 23)) := ⟨rfl, rfl, rfl, by decide +kernel, rfl, by decide +kernel, by decide +kernel⟩
def tb_lfloor : List (Str × Nat × List Str × Fn) := [("_law_num", 2, [], f_lnum)]
def bl_lfloor : List Str := ["range"]
def gt_lfloor : List (Str × D) := []
def C_lfloor (wf : Nat) : Cf := ⟨N_lfloor, defScope (topS 23), fnsOf (tb_lfloor), glOf gt_lfloor, bltOf bl_lfloor, wf, fun _ => true⟩
def lb1_lfloor (wf : Nat) : S → Res Fl := sq [
    bnd (bnd (rdS 2) fun x => bnd (ret (.int 2)) fun y => lift (binD .Mult x y)) fun d => bnd (setS 2 d) fun _ => ret .nx]
def cb_lfloor (wf : Nat) : S → Res Fl := sq [
    bnd (ret (.int 1)) fun d => bnd (setS 2 d) fun _ => ret .nx, 
    bnd (bnd (rdS 1) fun d => lift (rngD d)) fun ds => forL (fun x => setS 3 (x)) (lb1_lfloor wf) ds, 
    bnd (bnd (argsM [.d (bnd (bnd (bnd (pkS 0) fun _ => bnd (ret (.int 0)) fun k => bnd (pkS 0) fun c => lift (ixD c k)) fun x => bnd (rdS 2) fun y => lift (binD .Mult x y)) fun x => bnd (bnd (pkS 0) fun _ => bnd (ret (.int 1)) fun k => bnd (pkS 0) fun c => lift (ixD c k)) fun y => lift (binD .FloorDiv x y)), .d (rdS 2)]) (callFn f_lnum)) fun d => ret (.rt d)]
theorem bd_lfloor (wf : Nat) : seqS (EX false (C_lfloor wf) 30) (defBody (topS 23)) = cb_lfloor wf := by kernel_rfl
def f_lfloor : Fn := mkF 4 [false, false] false (cb_lfloor 400)

/-! _law_power -/
abbrev N_lpow : List Str := ["_law_many", "_law_found", "_law_turn"]
abbrev P_lpow : List Str := ["_law_many"]
theorem sc_lpow : FnScope N_lpow P_lpow (defScope (topS 24)) := ⟨rfl, rfl, rfl, by decide +kernel, rfl, by decide +kernel, by decide +kernel⟩
def tb_lpow : List (Str × Nat × List Str × Fn) := []
def bl_lpow : List Str := ["range"]
def gt_lpow : List (Str × D) := []
def C_lpow (wf : Nat) : Cf := ⟨N_lpow, defScope (topS 24), fnsOf (tb_lpow), glOf gt_lpow, bltOf bl_lpow, wf, fun _ => true⟩
def lb1_lpow (wf : Nat) : S → Res Fl := sq [
    bnd (bnd (rdS 1) fun x => bnd (ret (.int 2)) fun y => lift (binD .Mult x y)) fun d => bnd (setS 1 d) fun _ => ret .nx]
def cb_lpow (wf : Nat) : S → Res Fl := sq [
    bnd (ret (.int 1)) fun d => bnd (setS 1 d) fun _ => ret .nx, 
    bnd (bnd (rdS 0) fun d => lift (rngD d)) fun ds => forL (fun x => setS 2 (x)) (lb1_lpow wf) ds, 
    bnd (rdS 1) fun d => ret (.rt d)]
theorem bd_lpow (wf : Nat) : seqS (EX false (C_lpow wf) 30) (defBody (topS 24)) = cb_lpow wf := by kernel_rfl
def f_lpow : Fn := mkF 3 [false] false (cb_lpow 400)

/-! _law_any -/
abbrev N_lany : List Str := ["_law_box", "_law_pool", "_law_top"]
abbrev P_lany : List Str := ["_law_box"]
theorem sc_lany : FnScope N_lany P_lany (defScope (topS 25)) := ⟨rfl, rfl, rfl, by decide +kernel, rfl, by decide +kernel, by decide +kernel⟩
def tb_lany : List (Str × Nat × List Str × Fn) := [("_law_take", 2, [], f_take), ("_law_one_of", 2, [], f_oneof), ("_law_power", 1, [], f_lpow)]
def bl_lany : List Str := []
def gt_lany : List (Str × D) := []
def C_lany (wf : Nat) : Cf := ⟨N_lany, defScope (topS 25), fnsOf (tb_lany), glOf gt_lany, bltOf bl_lany, wf, fun _ => true⟩
def cb_lany (wf : Nat) : S → Res Fl := sq [
    bnd (bnd (evL [bnd (bnd (argsM [.c 0, .d (ret (.int 9))]) (callFn f_take)) fun x => bnd (ret (.int 4)) fun y => lift (binD .Sub x y), bnd (bnd (argsM [.c 0, .d (ret (.int 1999))]) (callFn f_take)) fun x => bnd (ret (.int 999)) fun y => lift (binD .Sub x y), bnd (bnd (argsM [.c 0, .d (bnd (ret (.int 10)) fun x => bnd (ret (.int 18)) fun y => lift (binD .Pow x y))]) (callFn f_take)) fun x => bnd (bnd (ret (.int 5)) fun x => bnd (bnd (ret (.int 10)) fun x => bnd (ret (.int 17)) fun y => lift (binD .Pow x y)) fun y => lift (binD .Mult x y)) fun y => lift (binD .Sub x y), ret (.int 0), ret (.int 96)]) fun ds => lift (if ds.length ≤ sizeLine then some ds else none)) fun ds => bnd (setO 1 ds) fun _ => ret .nx, 
    bnd (bnd (argsM [.c 0, .d (rdS 1)]) (callFn f_oneof)) fun d => bnd (setS 2 d) fun _ => ret .nx, 
    bnd (bnd (evL [rdS 2, bnd (argsM [.d (bnd (bnd (bnd (evL [ret (.int 0), ret (.int 0), ret (.int 1), ret (.int 2), ret (.int 4), ret (.int 6), bnd (argsM [.c 0, .d (ret (.int 41))]) (callFn f_take)]) fun ds => lift (if ds.length ≤ sizeLine then some ds else none)) fun ds => ret (.list ds)) fun c => bnd (bnd (argsM [.c 0, .d (ret (.int 7))]) (callFn f_take)) fun k => lift (ixD c k))]) (callFn f_lpow)]) fun ds => lift (if ds.length ≤ sizeLine then some (.tuple ds) else none)) fun d => ret (.rt d)]
theorem bd_lany (wf : Nat) : seqS (EX false (C_lany wf) 30) (defBody (topS 25)) = cb_lany wf := by kernel_rfl
def f_lany : Fn := mkF 3 [true] false (cb_lany 400)

/-! _law_size -/
abbrev N_lsize : List Str := ["_law_one", "_law_low_of", "_law_found", "_law_turn"]
abbrev P_lsize : List Str := ["_law_one"]
theorem sc_lsize : FnScope N_lsize P_lsize (defScope (topS 26)) := ⟨rfl, rfl, rfl, by decide +kernel, rfl, by decide +kernel, by decide +kernel⟩
def tb_lsize : List (Str × Nat × List Str × Fn) := []
def bl_lsize : List Str := ["range"]
def gt_lsize : List (Str × D) := []
def C_lsize (wf : Nat) : Cf := ⟨N_lsize, defScope (topS 26), fnsOf (tb_lsize), glOf gt_lsize, bltOf bl_lsize, wf, fun _ => true⟩
def lb1_lsize (wf : Nat) : S → Res Fl := sq [
    bnd (bnd (rdS 1) fun x => bnd (ret (.int 1)) fun y => lift (cmpD .Gt x y)) fun k => if k then (sq [
    bnd (evL [bnd (rdS 1) fun x => bnd (ret (.int 2)) fun y => lift (binD .FloorDiv x y), bnd (rdS 2) fun x => bnd (ret (.int 1)) fun y => lift (binD .Add x y)]) fun ds => bnd (nmM [1, 2] ds) fun _ => ret .nx]) else (sq [])]
def cb_lsize (wf : Nat) : S → Res Fl := sq [
    bnd (evL [bnd (pkS 0) fun _ => bnd (ret (.int 1)) fun k => bnd (pkS 0) fun c => lift (ixD c k), ret (.int 0)]) fun ds => bnd (nmM [1, 2] ds) fun _ => ret .nx, 
    bnd (bnd (ret (.int 100)) fun d => lift (rngD d)) fun ds => forL (fun x => setS 3 (x)) (lb1_lsize wf) ds, 
    bnd (rdS 2) fun d => ret (.rt d)]
theorem bd_lsize (wf : Nat) : seqS (EX false (C_lsize wf) 30) (defBody (topS 26)) = cb_lsize wf := by kernel_rfl
def f_lsize : Fn := mkF 4 [false] false (cb_lsize 400)

/-! _law_cut_right -/
abbrev N_cutr : List Str := ["_law_one", "_law_figures", "_law_found", "_law_part", "_law_fine"]
abbrev P_cutr : List Str := ["_law_one", "_law_figures"]
theorem sc_cutr : FnScope N_cutr P_cutr (defScope (topS 27)) := ⟨rfl, rfl, rfl, by decide +kernel, rfl, by decide +kernel, by decide +kernel⟩
def tb_cutr : List (Str × Nat × List Str × Fn) := [("cut_of", 2, [], f_cutof), ("_law_power", 1, [], f_lpow), ("_law_below", 2, [], f_lbelow), ("_law_add", 2, [], f_ladd), ("_law_num", 2, [], f_lnum), ("_law_size", 1, [], f_lsize), ("_law_same", 2, [], (f_same 6)), ("_law_floor", 2, [], f_lfloor)]
def bl_cutr : List Str := []
def gt_cutr : List (Str × D) := []
def C_cutr (wf : Nat) : Cf := ⟨N_cutr, defScope (topS 27), fnsOf (tb_cutr), glOf gt_cutr, bltOf bl_cutr, wf, fun _ => true⟩
def cb_cutr (wf : Nat) : S → Res Fl := sq [
    bnd (bnd (argsM [.d (rdS 0), .d (rdS 1)]) (callFn f_cutof)) fun d => bnd (setS 2 d) fun _ => ret .nx, 
    bnd (bnd (evL [ret (.int 1), bnd (argsM [.d (rdS 1)]) (callFn f_lpow)]) fun ds => lift (if ds.length ≤ sizeLine then some (.tuple ds) else none)) fun d => bnd (setS 3 d) fun _ => ret .nx, 
    bnd (bnd (bnd (bnd (argsM [.d (rdS 0), .d (rdS 2)]) (callFn f_lbelow)) fun x => lift ((boolD x).map fun c => .bool (!c))) fun x => bnd (lift (boolD x)) fun c => if c then (bnd (argsM [.d (rdS 0), .d (bnd (argsM [.d (rdS 2), .d (bnd (argsM [.d (bnd (pkS 3) fun _ => bnd (ret (.int 0)) fun k => bnd (pkS 3) fun c => lift (ixD c k)), .d (bnd (pkS 3) fun _ => bnd (ret (.int 1)) fun k => bnd (pkS 3) fun c => lift (ixD c k))]) (callFn f_lnum))]) (callFn f_ladd))]) (callFn f_lbelow)) else ret (.bool false)) fun d => bnd (setS 4 d) fun _ => ret .nx, 
    bnd (bnd (rdS 4) fun x => bnd (lift (boolD x)) fun c => if c then (bnd (bnd (bnd (bnd (argsM [.d (rdS 2)]) (callFn f_lsize)) fun x => bnd (pkS 1) fun y => lift (cmpD .LtE x y)) fun k => ret (.bool k)) fun x => bnd (lift (boolD x)) fun c => if c then (bnd (argsM [.d (rdS 2), .d (bnd (argsM [.d (rdS 0), .d (rdS 1)]) (callFn f_lfloor))]) (callFn (f_same 6))) else ret (.bool false)) else ret (.bool false)) fun d => ret (.rt d)]
theorem bd_cutr (wf : Nat) : seqS (EX false (C_cutr wf) 30) (defBody (topS 27)) = cb_cutr wf := by kernel_rfl
def f_cutr : Fn := mkF 5 [false, false] false (cb_cutr 400)

/-! _law_pair_right -/
abbrev N_pairr : List Str := ["_law_box", "_law_a", "_law_b", "_law_c", "_law_d", "_law_one", "_law_two", "_law_found", "_law_due", "_law_figures"]
abbrev P_pairr : List Str := ["_law_box"]
theorem sc_pairr : FnScope N_pairr P_pairr (defScope (topS 28)) := ⟨rfl, rfl, rfl, by decide +kernel, rfl, by decide +kernel, by decide +kernel⟩
def tb_pairr : List (Str × Nat × List Str × Fn) := [("_law_any", 1, [], f_lany), ("_law_num", 2, [], f_lnum), ("_law_take", 2, [], f_take), ("num_of", 2, [], f_numof), ("num_of", 1, [], f_numof1), ("num_of", 0, ["number", "parts"], f_numof), ("sum_of", 2, [], f_sumof), ("less_of", 2, [], f_lessof), ("_law_add", 2, [], f_ladd), ("_law_sub", 2, [], f_lsub), ("times_of", 2, [], f_timesof), ("is_below", 2, [], f_isbelow), ("figures_of", 1, [], f_figs), ("_law_mul", 2, [], f_lmul), ("_law_below", 2, [], f_lbelow), ("_law_size", 1, [], f_lsize), ("_law_same", 2, [], (f_same 6)), ("_law_cut_right", 2, [], f_cutr)]
def bl_pairr : List Str := ["all"]
def gt_pairr : List (Str × D) := []
def C_pairr (wf : Nat) : Cf := ⟨N_pairr, defScope (topS 28), fnsOf (tb_pairr), glOf gt_pairr, bltOf bl_pairr, wf, fun _ => true⟩
def it1_pairr (wf : Nat) : S → Res (List D) := bnd (bnd (evL [ret (.int 0), ret (.int 1), ret (.int 8), bnd (argsM [.c 0, .d (ret (.int 51))]) (callFn f_take)]) fun ds => lift (if ds.length ≤ sizeLine then some (.tuple ds) else none)) fun d => lift (seqD d)
def ce2_pairr (wf : Nat) : S → Res D := bnd (argsM [.d (rdS 5), .d (rdS 9)]) (callFn f_cutr)
def cb_pairr (wf : Nat) : S → Res Fl := sq [
    bnd (bnd (evL [bnd (argsM [.c 0]) (callFn f_lany), bnd (argsM [.c 0]) (callFn f_lany)]) fun ds => lift (if ds.length ≤ sizeLine then some (.tuple ds) else none)) fun d => bnd (asgTup [fun y => asgTup [fun y => setS 1 (y), fun y => setS 2 (y)] (y), fun y => asgTup [fun y => setS 3 (y), fun y => setS 4 (y)] (y)] (d)) fun _ => ret .nx, 
    bnd (bnd (evL [bnd (argsM [.d (rdS 1), .d (rdS 2)]) (callFn f_lnum), bnd (argsM [.d (rdS 3), .d (rdS 4)]) (callFn f_lnum)]) fun ds => lift (if ds.length ≤ sizeLine then some (.tuple ds) else none)) fun d => bnd (asgTup [fun y => setS 5 (y), fun y => setS 6 (y)] (d)) fun _ => ret .nx, 
    bnd (bnd (bnd (bnd (argsM [.c 0, .d (ret (.int 5))]) (callFn f_take)) fun x => bnd (ret (.int 0)) fun y => lift (cmpD .Eq x y)) fun k => if k then (rdS 5) else (rdS 6)) fun d => bnd (setS 6 d) fun _ => ret .nx, 
    bnd (bnd (evL [bnd (argsM [.d (rdS 1), .d (rdS 2)]) (callFn f_numof), bnd (argsM [.d (rdS 1)]) (callFn f_numof1), bnd (argsM [.d (rdS 3), .d (rdS 4)]) (callFn f_numof), bnd (argsM [.d (rdS 5), .d (rdS 6)]) (callFn f_sumof), bnd (argsM [.d (rdS 5), .d (rdS 6)]) (callFn f_lessof)]) fun ds => lift (if ds.length ≤ sizeLine then some ds else none)) fun ds => bnd (setO 7 ds) fun _ => ret .nx, 
    bnd (bnd (evL [rdS 5, bnd (argsM [.d (rdS 1), .d (ret (.int 1))]) (callFn f_lnum), bnd (argsM [.d (rdS 3), .d (rdS 4)]) (callFn f_lnum), bnd (argsM [.d (rdS 5), .d (rdS 6)]) (callFn f_ladd), bnd (argsM [.d (rdS 5), .d (rdS 6)]) (callFn f_lsub)]) fun ds => lift (if ds.length ≤ sizeLine then some ds else none)) fun ds => bnd (setO 8 ds) fun _ => ret .nx, 
    bnd (bnd (rdS 7) fun x => bnd (bnd (bnd (evL [bnd (argsM [.d (rdS 5), .d (rdS 6)]) (callFn f_timesof), bnd (argsM [.d (rdS 5), .d (rdS 6)]) (callFn f_isbelow), bnd (argsM [.d (rdS 6), .d (rdS 5)]) (callFn f_isbelow), bnd (argsM [.d (rdS 5)]) (callFn f_figs)]) fun ds => lift (if ds.length ≤ sizeLine then some ds else none)) fun ds => ret (.list ds)) fun y => lift (binD .Add x y)) fun d => bnd (setS 7 d) fun _ => ret .nx, 
    bnd (bnd (rdS 8) fun x => bnd (bnd (bnd (evL [bnd (argsM [.d (rdS 5), .d (rdS 6)]) (callFn f_lmul), bnd (argsM [.d (rdS 5), .d (rdS 6)]) (callFn f_lbelow), bnd (argsM [.d (rdS 6), .d (rdS 5)]) (callFn f_lbelow), bnd (argsM [.d (rdS 5)]) (callFn f_lsize)]) fun ds => lift (if ds.length ≤ sizeLine then some ds else none)) fun ds => ret (.list ds)) fun y => lift (binD .Add x y)) fun d => bnd (setS 8 d) fun _ => ret .nx, 
    bnd (bnd (bnd (bnd (argsM [.d (rdS 7), .d (rdS 8)]) (callFn (f_same 6))) fun d => lift (truthD d)) fun c => ret (!c)) fun k => if k then (sq [
    bnd (ret (.bool false)) fun d => ret (.rt d)]) else (sq []), 
    bnd (bnd (bnd (cpr [9] (it1_pairr wf) (fun x => setS 9 (x)) (ret true) (ce2_pairr wf)) fun ds => ret (.list ds)) fun d => lift (allD d)) fun d => ret (.rt d)]
theorem bd_pairr (wf : Nat) : seqS (EX false (C_pairr wf) 30) (defBody (topS 28)) = cb_pairr wf := by kernel_rfl
def f_pairr : Fn := mkF 10 [true] false (cb_pairr 400)

/-! _law_lists_right -/
abbrev N_listsr : List Str := ["_law_box", "_law_pool", "_law_turn", "_law_low", "_law_high", "_law_kept", "_law_one"]
abbrev P_listsr : List Str := ["_law_box"]
theorem sc_listsr : FnScope N_listsr P_listsr (defScope (topS 29)) := ⟨rfl, rfl, rfl, by decide +kernel, rfl, by decide +kernel, by decide +kernel⟩
def tb_listsr : List (Str × Nat × List Str × Fn) := [("_law_take", 2, [], f_take), ("_law_num", 2, [], f_lnum), ("_law_below", 2, [], f_lbelow), ("_law_same", 2, [], (f_same 6)), ("least_num", 1, [], f_leastnum), ("most_num", 1, [], f_mostnum)]
def bl_listsr : List Str := ["range", "list"]
def gt_listsr : List (Str × D) := []
def C_listsr (wf : Nat) : Cf := ⟨N_listsr, defScope (topS 29), fnsOf (tb_listsr), glOf gt_listsr, bltOf bl_listsr, wf, fun _ => true⟩
def lb1_listsr (wf : Nat) : S → Res Fl := sq [
    bnd (pkS 1) fun c => appM 1 (bnd (argsM [.d (bnd (bnd (argsM [.c 0, .d (ret (.int 21))]) (callFn f_take)) fun x => bnd (ret (.int 10)) fun y => lift (binD .Sub x y)), .d (bnd (bnd (bnd (evL [ret (.int 1), ret (.int 2), ret (.int 8)]) fun ds => lift (if ds.length ≤ sizeLine then some ds else none)) fun ds => ret (.list ds)) fun c => bnd (bnd (argsM [.c 0, .d (ret (.int 3))]) (callFn f_take)) fun k => lift (ixD c k))]) (callFn f_lnum)) c]
def lb2_listsr (wf : Nat) : S → Res Fl := sq [
    bnd (bnd (bnd (bnd (argsM [.d (rdS 6), .d (rdS 3)]) (callFn f_lbelow)) fun d => lift (truthD d)) fun k => if k then (rdS 6) else (rdS 3)) fun d => bnd (setS 3 d) fun _ => ret .nx, 
    bnd (bnd (bnd (bnd (argsM [.d (rdS 4), .d (rdS 6)]) (callFn f_lbelow)) fun d => lift (truthD d)) fun k => if k then (rdS 6) else (rdS 4)) fun d => bnd (setS 4 d) fun _ => ret .nx]
def cb_listsr (wf : Nat) : S → Res Fl := sq [
    bnd (bnd (evL []) fun ds => lift (if ds.length ≤ sizeLine then some ds else none)) fun ds => bnd (setO 1 ds) fun _ => ret .nx, 
    bnd (bnd (bnd (ret (.int 1)) fun x => bnd (bnd (argsM [.c 0, .d (ret (.int 6))]) (callFn f_take)) fun y => lift (binD .Add x y)) fun d => lift (rngD d)) fun ds => forL (fun x => setS 2 (x)) (lb1_listsr wf) ds, 
    bnd (evL [bnd (pkS 1) fun _ => bnd (ret (.int 0)) fun k => bnd (pkS 1) fun c => lift (ixD c k), bnd (pkS 1) fun _ => bnd (ret (.int 0)) fun k => bnd (pkS 1) fun c => lift (ixD c k), bnd (bnd (pkS 1) fun c => lift (seqD c)) fun ds => ret (.list ds)]) fun ds => bnd (nmM [3, 4, 5] ds) fun _ => ret .nx, 
    bnd (bnd (rdS 1) fun d => lift (seqD d)) fun ds => forL (fun x => setS 6 (x)) (lb2_listsr wf) ds, 
    bnd (bnd (bnd (argsM [.d (bnd (bnd (evL [bnd (argsM [.d (rdS 1)]) (callFn f_leastnum), bnd (argsM [.d (rdS 1)]) (callFn f_mostnum)]) fun ds => lift (if ds.length ≤ sizeLine then some ds else none)) fun ds => ret (.list ds)), .d (bnd (bnd (evL [rdS 3, rdS 4]) fun ds => lift (if ds.length ≤ sizeLine then some ds else none)) fun ds => ret (.list ds))]) (callFn (f_same 6))) fun x => bnd (lift (boolD x)) fun c => if c then (bnd (bnd (rdS 1) fun x => bnd (pkS 5) fun y => lift (cmpD .Eq x y)) fun k => ret (.bool k)) else ret (.bool false)) fun d => ret (.rt d)]
theorem bd_listsr (wf : Nat) : seqS (EX false (C_listsr wf) 30) (defBody (topS 29)) = cb_listsr wf := by kernel_rfl
def f_listsr : Fn := mkF 7 [true] false (cb_listsr 400)

/-! law -/
abbrev N_law : List Str := ["_law_script", "_law_cells", "_law_k", "_law_box", "_law_turn"]
abbrev P_law : List Str := ["_law_script"]
theorem sc_law : FnScope N_law P_law (defScope (topS 30)) := ⟨rfl, rfl, rfl, by decide +kernel, rfl, by decide +kernel, by decide +kernel⟩
def tb_law : List (Str × Nat × List Str × Fn) := [("_law_folded", 2, [], f_folded), ("_law_dip", 2, [], f_dip), ("_law_pair_right", 1, [], f_pairr), ("_law_lists_right", 1, [], f_listsr)]
def bl_law : List Str := ["range", "len", "all"]
def gt_law : List (Str × D) := []
def C_law (wf : Nat) : Cf := ⟨N_law, defScope (topS 30), fnsOf (tb_law), glOf gt_law, bltOf bl_law, wf, fun _ => true⟩
def it1_law (wf : Nat) : S → Res (List D) := bnd (ret (.int 12)) fun d => lift (rngD d)
def ce2_law (wf : Nat) : S → Res D := bnd (bnd (argsM [.c 3]) (callFn f_pairr)) fun x => bnd (lift (boolD x)) fun c => if c then (bnd (argsM [.c 3]) (callFn f_listsr)) else ret (.bool false)
def lb3_law (wf : Nat) : S → Res Fl := sq [
    bnd (bnd (argsM [.d (rdS 1), .d (rdS 2)]) fun a => bnd (callFn f_dip a) fun d => lift (listD d)) fun ds => bnd (setO 3 ds) fun _ => ret .nx, 
    bnd (bnd (bnd (bnd (bnd (cpr [4] (it1_law wf) (fun x => setS 4 (x)) (ret true) (ce2_law wf)) fun ds => ret (.list ds)) fun d => lift (allD d)) fun d => lift (truthD d)) fun c => ret (!c)) fun k => if k then (sq [
    bnd (ret (.bool false)) fun d => ret (.rt d)]) else (sq [])]
def cb_law (wf : Nat) : S → Res Fl := sq [
    bnd (bnd (argsM [.d (rdS 0), .d (ret (.int 4))]) fun a => bnd (callFn f_folded a) fun d => lift (listD d)) fun ds => bnd (setO 1 ds) fun _ => ret .nx, 
    bnd (bnd (bnd (ret (.int 1)) fun x => bnd (bnd (pkS 1) fun c => lift (lenD c)) fun y => lift (binD .Add x y)) fun d => lift (rngD d)) fun ds => forL (fun x => setS 2 (x)) (lb3_law wf) ds, 
    bnd (ret (.bool true)) fun d => ret (.rt d)]
theorem bd_law (wf : Nat) : seqS (EX false (C_law wf) 30) (defBody (topS 30)) = cb_law wf := by kernel_rfl
def f_law : Fn := mkF 5 [false] false (cb_law 400)

end K02
end

set_option Elab.async false
set_option linter.all false
set_option maxRecDepth 100000
set_option maxHeartbeats 4000000
namespace K02
open PySem L2 PySem.Spec Bw
def pn (x : Int × Nat) : D := .tuple [.int x.1, .int (2 ^ x.2)]
theorem two_le : (2 : Nat) ≤ sizeLine := by decide
theorem log_two (k : Nat) : ((2 : Int) ^ k).natAbs.log2 = k := by
  rw [Int.natAbs_pow]; exact Nat.log2_two_pow
theorem cdiv_two (a : Int) {k : Nat} (h : k < 9000) : CDivW a (2 ^ k) := ⟨two_pos k, by rw [log_two]; exact h⟩
theorem ev_numof (a : Int) (k : Nat) (hk : k < 9000) : f_numof.run [.int a, .int (2 ^ k)] [] = some (.val (pn (nrm a k)) []) := by
  by_cases h : a = 0
  · subst h
    refine run_mkF (s' := ⟨[.dat (.int 0), .dat (.int (2 ^ k)), .un], []⟩) ?_
    simp only [cb_numof, Bw.startS, Bw.startS.go, ↓Bw.e_sq, ↓Bw.e_sq0, ↓Bw.bnd_ap, ↓Bw.e_ret, ↓Bw.e_some, ↓Bw.e_evL0, ↓Bw.e_evL, ↓Bw.e_args0, ↓Bw.e_argsD, ↓Bw.e_argsC, Bw.rdS, Bw.pkS, Bw.cellOf, Bw.e_setS, Bw.e_setO, Bw.e_add, Bw.e_sub, Bw.e_mul, Bw.e_div, Bw.e_mod, Bw.e_pow, Bw.e_and, Bw.e_app, Bw.e_adda, Bw.e_suba, Bw.e_mula, Bw.e_diva, Bw.e_lt, Bw.e_le, Bw.e_gt, Bw.e_ge, Bw.e_eq, Bw.e_ne, Bw.e_eqb, Bw.e_neb, Bw.e_neg, Bw.e_trb, Bw.e_bool, Bw.e_int, Bw.e_ixt, Bw.e_ixl, Bw.at_z, Bw.at_o, Bw.at_t, List.length_cons, List.length_nil, List.cons_append, List.nil_append, List.append_nil, List.replicate_succ, List.replicate_zero, List.getElem?_cons_zero, List.getElem?_cons_succ, List.set_cons_succ, List.set_cons_zero, Nat.reduceSub, Nat.reduceAdd, Option.bind_some, Option.map_some, if_true, if_false, decide_true, decide_false, Bool.false_eq_true, Bool.not_true, Bool.not_false, if_pos, K02.two_le, pn, nrm, Int.pow_zero]
  · refine run_mkF (s' := ⟨[.dat (.int a), .dat (.int (2 ^ k)), .dat (.int (2 ^ sh a k))], []⟩) ?_
    simp only [cb_numof, Bw.startS, Bw.startS.go, ↓Bw.e_sq, ↓Bw.e_sq0, ↓Bw.bnd_ap, ↓Bw.e_ret, ↓Bw.e_some, ↓Bw.e_evL0, ↓Bw.e_evL, ↓Bw.e_args0, ↓Bw.e_argsD, ↓Bw.e_argsC, Bw.rdS, Bw.pkS, Bw.cellOf, Bw.e_setS, Bw.e_setO, Bw.e_add, Bw.e_sub, Bw.e_mul, Bw.e_div, Bw.e_mod, Bw.e_pow, Bw.e_and, Bw.e_app, Bw.e_adda, Bw.e_suba, Bw.e_mula, Bw.e_diva, Bw.e_lt, Bw.e_le, Bw.e_gt, Bw.e_ge, Bw.e_eq, Bw.e_ne, Bw.e_eqb, Bw.e_neb, Bw.e_neg, Bw.e_trb, Bw.e_bool, Bw.e_int, Bw.e_ixt, Bw.e_ixl, Bw.at_z, Bw.at_o, Bw.at_t, List.length_cons, List.length_nil, List.cons_append, List.nil_append, List.append_nil, List.replicate_succ, List.replicate_zero, List.getElem?_cons_zero, List.getElem?_cons_succ, List.set_cons_succ, List.set_cons_zero, Nat.reduceSub, Nat.reduceAdd, Option.bind_some, Option.map_some, if_true, if_false, decide_true, decide_false, Bool.false_eq_true, Bool.not_true, Bool.not_false, if_pos, K02.two_le, pn, nrm, h, min_low k h, cdiv_two _ (Nat.lt_of_le_of_lt (sh_le a k) hk), two_div (sh_le a k)]
theorem ev_lnum (a : Int) (k : Nat) (hk : k < 9000) : f_lnum.run [.int a, .int (2 ^ k)] [] = some (.val (pn (nrm a k)) []) := by
  by_cases h : a = 0
  · subst h
    refine run_mkF (s' := ⟨[.dat (.int 0), .dat (.int (2 ^ k)), .un], []⟩) ?_
    simp only [cb_lnum, Bw.startS, Bw.startS.go, ↓Bw.e_sq, ↓Bw.e_sq0, ↓Bw.bnd_ap, ↓Bw.e_ret, ↓Bw.e_some, ↓Bw.e_evL0, ↓Bw.e_evL, ↓Bw.e_args0, ↓Bw.e_argsD, ↓Bw.e_argsC, Bw.rdS, Bw.pkS, Bw.cellOf, Bw.e_setS, Bw.e_setO, Bw.e_add, Bw.e_sub, Bw.e_mul, Bw.e_div, Bw.e_mod, Bw.e_pow, Bw.e_and, Bw.e_app, Bw.e_adda, Bw.e_suba, Bw.e_mula, Bw.e_diva, Bw.e_lt, Bw.e_le, Bw.e_gt, Bw.e_ge, Bw.e_eq, Bw.e_ne, Bw.e_eqb, Bw.e_neb, Bw.e_neg, Bw.e_trb, Bw.e_bool, Bw.e_int, Bw.e_ixt, Bw.e_ixl, Bw.at_z, Bw.at_o, Bw.at_t, List.length_cons, List.length_nil, List.cons_append, List.nil_append, List.append_nil, List.replicate_succ, List.replicate_zero, List.getElem?_cons_zero, List.getElem?_cons_succ, List.set_cons_succ, List.set_cons_zero, Nat.reduceSub, Nat.reduceAdd, Option.bind_some, Option.map_some, if_true, if_false, decide_true, decide_false, Bool.false_eq_true, Bool.not_true, Bool.not_false, if_pos, K02.two_le, pn, nrm, Int.pow_zero]
  · refine run_mkF (s' := ⟨[.dat (.int a), .dat (.int (2 ^ k)), .dat (.int (2 ^ sh a k))], []⟩) ?_
    simp only [cb_lnum, Bw.startS, Bw.startS.go, ↓Bw.e_sq, ↓Bw.e_sq0, ↓Bw.bnd_ap, ↓Bw.e_ret, ↓Bw.e_some, ↓Bw.e_evL0, ↓Bw.e_evL, ↓Bw.e_args0, ↓Bw.e_argsD, ↓Bw.e_argsC, Bw.rdS, Bw.pkS, Bw.cellOf, Bw.e_setS, Bw.e_setO, Bw.e_add, Bw.e_sub, Bw.e_mul, Bw.e_div, Bw.e_mod, Bw.e_pow, Bw.e_and, Bw.e_app, Bw.e_adda, Bw.e_suba, Bw.e_mula, Bw.e_diva, Bw.e_lt, Bw.e_le, Bw.e_gt, Bw.e_ge, Bw.e_eq, Bw.e_ne, Bw.e_eqb, Bw.e_neb, Bw.e_neg, Bw.e_trb, Bw.e_bool, Bw.e_int, Bw.e_ixt, Bw.e_ixl, Bw.at_z, Bw.at_o, Bw.at_t, List.length_cons, List.length_nil, List.cons_append, List.nil_append, List.append_nil, List.replicate_succ, List.replicate_zero, List.getElem?_cons_zero, List.getElem?_cons_succ, List.set_cons_succ, List.set_cons_zero, Nat.reduceSub, Nat.reduceAdd, Option.bind_some, Option.map_some, if_true, if_false, decide_true, decide_false, Bool.false_eq_true, Bool.not_true, Bool.not_false, if_pos, K02.two_le, pn, nrm, h, Int.zero_sub, min_low k h, cdiv_two _ (Nat.lt_of_le_of_lt (sh_le a k) hk), two_div (sh_le a k)]

/-- of middling size -/
def B (n : Nat) (x : Int × Nat) : Prop := x.1.natAbs < 2 ^ n ∧ x.2 ≤ n
theorem B.mono {n m : Nat} {x : Int × Nat} (h : B n x) (hm : n ≤ m) : B m x := ⟨Nat.lt_of_lt_of_le h.1 (Nat.pow_le_pow_right (by decide) hm), Nat.le_trans h.2 hm⟩
theorem log_lt {i n : Nat} (h : i < 2 ^ n) (hn : 0 < n) : i.log2 < n := by
  by_cases h0 : i = 0
  · subst h0; rw [Nat.log2_zero]; exact hn
  · exact (Nat.log2_lt h0).mpr h
theorem mulok {i j : Int} (hi : i.natAbs < 2 ^ 2000) (hj : j.natAbs < 2 ^ 2000) : CMul i j ∨ CMulW i j := by
  refine .inr ?_
  have h1 := log_lt hi (by decide)
  have h2 := log_lt hj (by decide)
  show _ + _ < 1000000
  omega
theorem two_abs (k : Nat) : ((2 : Int) ^ k).natAbs = 2 ^ k := by rw [Int.natAbs_pow]; rfl
theorem two_lt {k : Nat} (h : k < 2000) : ((2 : Int) ^ k).natAbs < 2 ^ 2000 := by rw [two_abs]; exact Nat.pow_lt_pow_right (by decide) h
theorem B.one {x : Int × Nat} (h : B 1999 x) : x.1.natAbs < 2 ^ 2000 := (h.mono (by decide : 1999 ≤ 2000)).1
theorem B.two {x : Int × Nat} (h : B 1999 x) : ((2 : Int) ^ x.2).natAbs < 2 ^ 2000 := two_lt (Nat.lt_succ_of_le h.2)
theorem two_mul' (i j : Nat) : (2 : Int) ^ i * 2 ^ j = 2 ^ (i + j) := (two_add i j).symm
theorem B.nine {x y : Int × Nat} (h : B 1999 x) (h' : B 1999 y) : x.2 + y.2 < 9000 := by have := h.2; have := h'.2; omega
section
variable {x y : Int × Nat} (hx : B 1999 x) (hy : B 1999 y)
include hx hy
theorem ev_sumof : f_sumof.run [pn x, pn y] [] = some (.val (pn (add x y)) []) := by
  refine run_mkF (s' := ⟨[.dat (pn x), .dat (pn y)], []⟩) ?_
  simp only [cb_sumof, Bw.startS, Bw.startS.go, ↓Bw.e_sq, ↓Bw.e_sq0, ↓Bw.bnd_ap, ↓Bw.e_ret, ↓Bw.e_some, ↓Bw.e_evL0, ↓Bw.e_evL, ↓Bw.e_args0, ↓Bw.e_argsD, ↓Bw.e_argsC, Bw.rdS, Bw.pkS, Bw.cellOf, Bw.e_setS, Bw.e_setO, Bw.e_add, Bw.e_sub, Bw.e_mul, Bw.e_div, Bw.e_mod, Bw.e_pow, Bw.e_and, Bw.e_app, Bw.e_adda, Bw.e_suba, Bw.e_mula, Bw.e_diva, Bw.e_lt, Bw.e_le, Bw.e_gt, Bw.e_ge, Bw.e_eq, Bw.e_ne, Bw.e_eqb, Bw.e_neb, Bw.e_neg, Bw.e_trb, Bw.e_bool, Bw.e_int, Bw.e_ixt, Bw.e_ixl, Bw.at_z, Bw.at_o, Bw.at_t, List.length_cons, List.length_nil, List.cons_append, List.nil_append, List.append_nil, List.replicate_succ, List.replicate_zero, List.getElem?_cons_zero, List.getElem?_cons_succ, List.set_cons_succ, List.set_cons_zero, Nat.reduceSub, Nat.reduceAdd, Option.bind_some, Option.map_some, if_true, if_false, decide_true, decide_false, Bool.false_eq_true, Bool.not_true, Bool.not_false, if_pos, K02.two_le, pn, mulok hx.one hy.two, mulok hy.one hx.two, mulok hx.two hy.two, two_mul', call_nil (ev_numof _ _ (hx.nine hy)), add]
theorem ev_ladd : f_ladd.run [pn x, pn y] [] = some (.val (pn (add x y)) []) := by
  refine run_mkF (s' := ⟨[.dat (pn x), .dat (pn y)], []⟩) ?_
  simp only [cb_ladd, Bw.startS, Bw.startS.go, ↓Bw.e_sq, ↓Bw.e_sq0, ↓Bw.bnd_ap, ↓Bw.e_ret, ↓Bw.e_some, ↓Bw.e_evL0, ↓Bw.e_evL, ↓Bw.e_args0, ↓Bw.e_argsD, ↓Bw.e_argsC, Bw.rdS, Bw.pkS, Bw.cellOf, Bw.e_setS, Bw.e_setO, Bw.e_add, Bw.e_sub, Bw.e_mul, Bw.e_div, Bw.e_mod, Bw.e_pow, Bw.e_and, Bw.e_app, Bw.e_adda, Bw.e_suba, Bw.e_mula, Bw.e_diva, Bw.e_lt, Bw.e_le, Bw.e_gt, Bw.e_ge, Bw.e_eq, Bw.e_ne, Bw.e_eqb, Bw.e_neb, Bw.e_neg, Bw.e_trb, Bw.e_bool, Bw.e_int, Bw.e_ixt, Bw.e_ixl, Bw.at_z, Bw.at_o, Bw.at_t, List.length_cons, List.length_nil, List.cons_append, List.nil_append, List.append_nil, List.replicate_succ, List.replicate_zero, List.getElem?_cons_zero, List.getElem?_cons_succ, List.set_cons_succ, List.set_cons_zero, Nat.reduceSub, Nat.reduceAdd, Option.bind_some, Option.map_some, if_true, if_false, decide_true, decide_false, Bool.false_eq_true, Bool.not_true, Bool.not_false, if_pos, K02.two_le, pn, mulok hx.one hy.two, mulok hy.one hx.two, mulok hx.two hy.two, two_mul', call_nil (ev_lnum _ _ (hx.nine hy)), add]
theorem ev_lessof : f_lessof.run [pn x, pn y] [] = some (.val (pn (sub x y)) []) := by
  refine run_mkF (s' := ⟨[.dat (pn x), .dat (pn y)], []⟩) ?_
  simp only [cb_lessof, Bw.startS, Bw.startS.go, ↓Bw.e_sq, ↓Bw.e_sq0, ↓Bw.bnd_ap, ↓Bw.e_ret, ↓Bw.e_some, ↓Bw.e_evL0, ↓Bw.e_evL, ↓Bw.e_args0, ↓Bw.e_argsD, ↓Bw.e_argsC, Bw.rdS, Bw.pkS, Bw.cellOf, Bw.e_setS, Bw.e_setO, Bw.e_add, Bw.e_sub, Bw.e_mul, Bw.e_div, Bw.e_mod, Bw.e_pow, Bw.e_and, Bw.e_app, Bw.e_adda, Bw.e_suba, Bw.e_mula, Bw.e_diva, Bw.e_lt, Bw.e_le, Bw.e_gt, Bw.e_ge, Bw.e_eq, Bw.e_ne, Bw.e_eqb, Bw.e_neb, Bw.e_neg, Bw.e_trb, Bw.e_bool, Bw.e_int, Bw.e_ixt, Bw.e_ixl, Bw.at_z, Bw.at_o, Bw.at_t, List.length_cons, List.length_nil, List.cons_append, List.nil_append, List.append_nil, List.replicate_succ, List.replicate_zero, List.getElem?_cons_zero, List.getElem?_cons_succ, List.set_cons_succ, List.set_cons_zero, Nat.reduceSub, Nat.reduceAdd, Option.bind_some, Option.map_some, if_true, if_false, decide_true, decide_false, Bool.false_eq_true, Bool.not_true, Bool.not_false, if_pos, K02.two_le, pn, mulok hx.one hy.two, mulok hy.one hx.two, mulok hx.two hy.two, two_mul', call_nil (ev_numof _ _ (hx.nine hy)), sub]
theorem ev_timesof : f_timesof.run [pn x, pn y] [] = some (.val (pn (mul x y)) []) := by
  refine run_mkF (s' := ⟨[.dat (pn x), .dat (pn y)], []⟩) ?_
  simp only [cb_timesof, Bw.startS, Bw.startS.go, ↓Bw.e_sq, ↓Bw.e_sq0, ↓Bw.bnd_ap, ↓Bw.e_ret, ↓Bw.e_some, ↓Bw.e_evL0, ↓Bw.e_evL, ↓Bw.e_args0, ↓Bw.e_argsD, ↓Bw.e_argsC, Bw.rdS, Bw.pkS, Bw.cellOf, Bw.e_setS, Bw.e_setO, Bw.e_add, Bw.e_sub, Bw.e_mul, Bw.e_div, Bw.e_mod, Bw.e_pow, Bw.e_and, Bw.e_app, Bw.e_adda, Bw.e_suba, Bw.e_mula, Bw.e_diva, Bw.e_lt, Bw.e_le, Bw.e_gt, Bw.e_ge, Bw.e_eq, Bw.e_ne, Bw.e_eqb, Bw.e_neb, Bw.e_neg, Bw.e_trb, Bw.e_bool, Bw.e_int, Bw.e_ixt, Bw.e_ixl, Bw.at_z, Bw.at_o, Bw.at_t, List.length_cons, List.length_nil, List.cons_append, List.nil_append, List.append_nil, List.replicate_succ, List.replicate_zero, List.getElem?_cons_zero, List.getElem?_cons_succ, List.set_cons_succ, List.set_cons_zero, Nat.reduceSub, Nat.reduceAdd, Option.bind_some, Option.map_some, if_true, if_false, decide_true, decide_false, Bool.false_eq_true, Bool.not_true, Bool.not_false, if_pos, K02.two_le, pn, mulok hx.one hy.one, mulok hx.two hy.two, two_mul', call_nil (ev_numof _ _ (hx.nine hy)), mul]
theorem ev_lmul : f_lmul.run [pn x, pn y] [] = some (.val (pn (mul x y)) []) := by
  refine run_mkF (s' := ⟨[.dat (pn x), .dat (pn y)], []⟩) ?_
  simp only [cb_lmul, Bw.startS, Bw.startS.go, ↓Bw.e_sq, ↓Bw.e_sq0, ↓Bw.bnd_ap, ↓Bw.e_ret, ↓Bw.e_some, ↓Bw.e_evL0, ↓Bw.e_evL, ↓Bw.e_args0, ↓Bw.e_argsD, ↓Bw.e_argsC, Bw.rdS, Bw.pkS, Bw.cellOf, Bw.e_setS, Bw.e_setO, Bw.e_add, Bw.e_sub, Bw.e_mul, Bw.e_div, Bw.e_mod, Bw.e_pow, Bw.e_and, Bw.e_app, Bw.e_adda, Bw.e_suba, Bw.e_mula, Bw.e_diva, Bw.e_lt, Bw.e_le, Bw.e_gt, Bw.e_ge, Bw.e_eq, Bw.e_ne, Bw.e_eqb, Bw.e_neb, Bw.e_neg, Bw.e_trb, Bw.e_bool, Bw.e_int, Bw.e_ixt, Bw.e_ixl, Bw.at_z, Bw.at_o, Bw.at_t, List.length_cons, List.length_nil, List.cons_append, List.nil_append, List.append_nil, List.replicate_succ, List.replicate_zero, List.getElem?_cons_zero, List.getElem?_cons_succ, List.set_cons_succ, List.set_cons_zero, Nat.reduceSub, Nat.reduceAdd, Option.bind_some, Option.map_some, if_true, if_false, decide_true, decide_false, Bool.false_eq_true, Bool.not_true, Bool.not_false, if_pos, K02.two_le, pn, mulok hx.one hy.one, mulok hx.two hy.two, two_mul', call_nil (ev_lnum _ _ (hx.nine hy)), mul]
theorem ev_isbelow : f_isbelow.run [pn x, pn y] [] = some (.val (.bool (below x y)) []) := by
  refine run_mkF (s' := ⟨[.dat (pn x), .dat (pn y)], []⟩) ?_
  simp only [cb_isbelow, Bw.startS, Bw.startS.go, ↓Bw.e_sq, ↓Bw.e_sq0, ↓Bw.bnd_ap, ↓Bw.e_ret, ↓Bw.e_some, ↓Bw.e_evL0, ↓Bw.e_evL, ↓Bw.e_args0, ↓Bw.e_argsD, ↓Bw.e_argsC, Bw.rdS, Bw.pkS, Bw.cellOf, Bw.e_setS, Bw.e_setO, Bw.e_add, Bw.e_sub, Bw.e_mul, Bw.e_div, Bw.e_mod, Bw.e_pow, Bw.e_and, Bw.e_app, Bw.e_adda, Bw.e_suba, Bw.e_mula, Bw.e_diva, Bw.e_lt, Bw.e_le, Bw.e_gt, Bw.e_ge, Bw.e_eq, Bw.e_ne, Bw.e_eqb, Bw.e_neb, Bw.e_neg, Bw.e_trb, Bw.e_bool, Bw.e_int, Bw.e_ixt, Bw.e_ixl, Bw.at_z, Bw.at_o, Bw.at_t, List.length_cons, List.length_nil, List.cons_append, List.nil_append, List.append_nil, List.replicate_succ, List.replicate_zero, List.getElem?_cons_zero, List.getElem?_cons_succ, List.set_cons_succ, List.set_cons_zero, Nat.reduceSub, Nat.reduceAdd, Option.bind_some, Option.map_some, if_true, if_false, decide_true, decide_false, Bool.false_eq_true, Bool.not_true, Bool.not_false, if_pos, K02.two_le, pn, mulok hx.one hy.two, mulok hy.one hx.two, below]
theorem ev_lbelow : f_lbelow.run [pn x, pn y] [] = some (.val (.bool (below x y)) []) := by
  refine run_mkF (s' := ⟨[.dat (pn x), .dat (pn y)], []⟩) ?_
  simp only [cb_lbelow, Bw.startS, Bw.startS.go, ↓Bw.e_sq, ↓Bw.e_sq0, ↓Bw.bnd_ap, ↓Bw.e_ret, ↓Bw.e_some, ↓Bw.e_evL0, ↓Bw.e_evL, ↓Bw.e_args0, ↓Bw.e_argsD, ↓Bw.e_argsC, Bw.rdS, Bw.pkS, Bw.cellOf, Bw.e_setS, Bw.e_setO, Bw.e_add, Bw.e_sub, Bw.e_mul, Bw.e_div, Bw.e_mod, Bw.e_pow, Bw.e_and, Bw.e_app, Bw.e_adda, Bw.e_suba, Bw.e_mula, Bw.e_diva, Bw.e_lt, Bw.e_le, Bw.e_gt, Bw.e_ge, Bw.e_eq, Bw.e_ne, Bw.e_eqb, Bw.e_neb, Bw.e_neg, Bw.e_trb, Bw.e_bool, Bw.e_int, Bw.e_ixt, Bw.e_ixl, Bw.at_z, Bw.at_o, Bw.at_t, List.length_cons, List.length_nil, List.cons_append, List.nil_append, List.append_nil, List.replicate_succ, List.replicate_zero, List.getElem?_cons_zero, List.getElem?_cons_succ, List.set_cons_succ, List.set_cons_zero, Nat.reduceSub, Nat.reduceAdd, Option.bind_some, Option.map_some, if_true, if_false, decide_true, decide_false, Bool.false_eq_true, Bool.not_true, Bool.not_false, if_pos, K02.two_le, pn, mulok hx.one hy.two, mulok hy.one hx.two, below]
theorem ev_lsub : f_lsub.run [pn x, pn y] [] = some (.val (pn (sub x y)) []) := by
  have hy' : B 1999 (0 - y.1, y.2) := ⟨by rw [Int.zero_sub, Int.natAbs_neg]; exact hy.1, hy.2⟩
  have e := call_nil (ev_ladd hx hy')
  have e2 : add x (0 - y.1, y.2) = sub x y := by
    unfold add sub
    rw [Int.zero_sub, Int.neg_mul, Int.sub_eq_add_neg]
  rw [e2] at e
  refine run_mkF (s' := ⟨[.dat (pn x), .dat (pn y)], []⟩) ?_
  unfold pn at e ⊢
  simp only [cb_lsub, Bw.startS, Bw.startS.go, ↓Bw.e_sq, ↓Bw.e_sq0, ↓Bw.bnd_ap, ↓Bw.e_ret, ↓Bw.e_some, ↓Bw.e_evL0, ↓Bw.e_evL, ↓Bw.e_args0, ↓Bw.e_argsD, ↓Bw.e_argsC, Bw.rdS, Bw.pkS, Bw.cellOf, Bw.e_setS, Bw.e_setO, Bw.e_add, Bw.e_sub, Bw.e_mul, Bw.e_div, Bw.e_mod, Bw.e_pow, Bw.e_and, Bw.e_app, Bw.e_adda, Bw.e_suba, Bw.e_mula, Bw.e_diva, Bw.e_lt, Bw.e_le, Bw.e_gt, Bw.e_ge, Bw.e_eq, Bw.e_ne, Bw.e_eqb, Bw.e_neb, Bw.e_neg, Bw.e_trb, Bw.e_bool, Bw.e_int, Bw.e_ixt, Bw.e_ixl, Bw.at_z, Bw.at_o, Bw.at_t, List.length_cons, List.length_nil, List.cons_append, List.nil_append, List.append_nil, List.replicate_succ, List.replicate_zero, List.getElem?_cons_zero, List.getElem?_cons_succ, List.set_cons_succ, List.set_cons_zero, Nat.reduceSub, Nat.reduceAdd, Option.bind_some, Option.map_some, if_true, if_false, decide_true, decide_false, Bool.false_eq_true, Bool.not_true, Bool.not_false, if_pos, K02.two_le, e]
end
theorem ev_numof1 (a : Int) : f_numof1.run [.int a] [] = some (.val (pn (nrm a 0)) []) := ev_numof a 0 (by decide)
/-! powers -/
theorem two_succ (k : Nat) : (2 : Int) ^ (k + 1) = 2 ^ k * 2 := Int.pow_succ 2 k
theorem cmul_two (i : Int) : CMul i 2 := .inr ⟨by decide, by decide⟩
theorem rng_nat (k : Nat) (h : k < 2 ^ 62) : rngD (.int (k : Nat)) = some ((List.range k).map fun i => .int (0 + (i : Nat))) := by
  unfold rngD
  rw [e_int, Option.bind_some, if_pos (inR_iff.mpr (by omega))]
  rfl
def r0 (i : Nat) : D := .int (0 + (i : Nat))
theorem ev_pow (k : Nat) (h : k < 2 ^ 62) : f_pow.run [.int (k : Nat)] [] = some (.val (.int (2 ^ k)) []) := by
  obtain ⟨s', e, d, hd⟩ := for_inv (asg := fun x => setS 2 x) (body := lb1_pow 400) (fun n s => ∃ d, s = ⟨[.dat (.int (k : Nat)), .dat (.int (2 ^ n)), d], []⟩) ((List.range k).map r0) 0 ⟨[.dat (.int (k : Nat)), .dat (.int 1), .un], []⟩ ⟨_, rfl⟩ (by
    intro i hi s ⟨d, hs⟩
    subst hs
    refine ⟨⟨[.dat (.int (k : Nat)), .dat (.int (2 ^ (0 + i + 1))), .dat (((List.range k).map r0)[i])], []⟩, ?_, _, rfl⟩
    simp only [lb1_pow, Bw.startS, Bw.startS.go, ↓Bw.e_sq, ↓Bw.e_sq0, ↓Bw.bnd_ap, ↓Bw.e_ret, ↓Bw.e_some, ↓Bw.e_evL0, ↓Bw.e_evL, ↓Bw.e_args0, ↓Bw.e_argsD, ↓Bw.e_argsC, Bw.rdS, Bw.pkS, Bw.cellOf, Bw.e_setS, Bw.e_setO, Bw.e_add, Bw.e_sub, Bw.e_mul, Bw.e_div, Bw.e_mod, Bw.e_pow, Bw.e_and, Bw.e_app, Bw.e_adda, Bw.e_suba, Bw.e_mula, Bw.e_diva, Bw.e_lt, Bw.e_le, Bw.e_gt, Bw.e_ge, Bw.e_eq, Bw.e_ne, Bw.e_eqb, Bw.e_neb, Bw.e_neg, Bw.e_trb, Bw.e_bool, Bw.e_int, Bw.e_ixt, Bw.e_ixl, Bw.at_z, Bw.at_o, Bw.at_t, List.length_cons, List.length_nil, List.cons_append, List.nil_append, List.append_nil, List.replicate_succ, List.replicate_zero, List.getElem?_cons_zero, List.getElem?_cons_succ, List.set_cons_succ, List.set_cons_zero, Nat.reduceSub, Nat.reduceAdd, Option.bind_some, Option.map_some, if_true, if_false, decide_true, decide_false, Bool.false_eq_true, Bool.not_true, Bool.not_false, if_pos, K02.two_le, two_succ, cmul_two])
  subst hd
  refine run_mkF (s' := ⟨[.dat (.int (k : Nat)), .dat (.int (2 ^ k)), d], []⟩) ?_
  simp only [List.length_map, List.length_range, Nat.zero_add] at e
  have e3 : rngD (.int (k : Nat)) = some ((List.range k).map r0) := rng_nat k h
  simp only [cb_pow, Bw.startS, Bw.startS.go, ↓Bw.e_sq, ↓Bw.e_sq0, ↓Bw.bnd_ap, ↓Bw.e_ret, ↓Bw.e_some, ↓Bw.e_evL0, ↓Bw.e_evL, ↓Bw.e_args0, ↓Bw.e_argsD, ↓Bw.e_argsC, Bw.rdS, Bw.pkS, Bw.cellOf, Bw.e_setS, Bw.e_setO, Bw.e_add, Bw.e_sub, Bw.e_mul, Bw.e_div, Bw.e_mod, Bw.e_pow, Bw.e_and, Bw.e_app, Bw.e_adda, Bw.e_suba, Bw.e_mula, Bw.e_diva, Bw.e_lt, Bw.e_le, Bw.e_gt, Bw.e_ge, Bw.e_eq, Bw.e_ne, Bw.e_eqb, Bw.e_neb, Bw.e_neg, Bw.e_trb, Bw.e_bool, Bw.e_int, Bw.e_ixt, Bw.e_ixl, Bw.at_z, Bw.at_o, Bw.at_t, List.length_cons, List.length_nil, List.cons_append, List.nil_append, List.append_nil, List.replicate_succ, List.replicate_zero, List.getElem?_cons_zero, List.getElem?_cons_succ, List.set_cons_succ, List.set_cons_zero, Nat.reduceSub, Nat.reduceAdd, Option.bind_some, Option.map_some, if_true, if_false, decide_true, decide_false, Bool.false_eq_true, Bool.not_true, Bool.not_false, if_pos, K02.two_le, e3, e]
theorem ev_lpow (k : Nat) (h : k < 2 ^ 62) : f_lpow.run [.int (k : Nat)] [] = some (.val (.int (2 ^ k)) []) := by
  obtain ⟨s', e, d, hd⟩ := for_inv (asg := fun x => setS 2 x) (body := lb1_lpow 400) (fun n s => ∃ d, s = ⟨[.dat (.int (k : Nat)), .dat (.int (2 ^ n)), d], []⟩) ((List.range k).map r0) 0 ⟨[.dat (.int (k : Nat)), .dat (.int 1), .un], []⟩ ⟨_, rfl⟩ (by
    intro i hi s ⟨d, hs⟩
    subst hs
    refine ⟨⟨[.dat (.int (k : Nat)), .dat (.int (2 ^ (0 + i + 1))), .dat (((List.range k).map r0)[i])], []⟩, ?_, _, rfl⟩
    have q : CMul (2 ^ (0 + i)) 2 ∨ CMulW (2 ^ (0 + i)) 2 := .inl (cmul_two _)
    simp only [lb1_lpow, Bw.startS, Bw.startS.go, ↓Bw.e_sq, ↓Bw.e_sq0, ↓Bw.bnd_ap, ↓Bw.e_ret, ↓Bw.e_some, ↓Bw.e_evL0, ↓Bw.e_evL, ↓Bw.e_args0, ↓Bw.e_argsD, ↓Bw.e_argsC, Bw.rdS, Bw.pkS, Bw.cellOf, Bw.e_setS, Bw.e_setO, Bw.e_add, Bw.e_sub, Bw.e_mul, Bw.e_div, Bw.e_mod, Bw.e_pow, Bw.e_and, Bw.e_app, Bw.e_adda, Bw.e_suba, Bw.e_mula, Bw.e_diva, Bw.e_lt, Bw.e_le, Bw.e_gt, Bw.e_ge, Bw.e_eq, Bw.e_ne, Bw.e_eqb, Bw.e_neb, Bw.e_neg, Bw.e_trb, Bw.e_bool, Bw.e_int, Bw.e_ixt, Bw.e_ixl, Bw.at_z, Bw.at_o, Bw.at_t, List.length_cons, List.length_nil, List.cons_append, List.nil_append, List.append_nil, List.replicate_succ, List.replicate_zero, List.getElem?_cons_zero, List.getElem?_cons_succ, List.set_cons_succ, List.set_cons_zero, Nat.reduceSub, Nat.reduceAdd, Option.bind_some, Option.map_some, if_true, if_false, decide_true, decide_false, Bool.false_eq_true, Bool.not_true, Bool.not_false, if_pos, K02.two_le, two_succ, q])
  subst hd
  refine run_mkF (s' := ⟨[.dat (.int (k : Nat)), .dat (.int (2 ^ k)), d], []⟩) ?_
  simp only [List.length_map, List.length_range, Nat.zero_add] at e
  have e3 : rngD (.int (k : Nat)) = some ((List.range k).map r0) := rng_nat k h
  simp only [cb_lpow, Bw.startS, Bw.startS.go, ↓Bw.e_sq, ↓Bw.e_sq0, ↓Bw.bnd_ap, ↓Bw.e_ret, ↓Bw.e_some, ↓Bw.e_evL0, ↓Bw.e_evL, ↓Bw.e_args0, ↓Bw.e_argsD, ↓Bw.e_argsC, Bw.rdS, Bw.pkS, Bw.cellOf, Bw.e_setS, Bw.e_setO, Bw.e_add, Bw.e_sub, Bw.e_mul, Bw.e_div, Bw.e_mod, Bw.e_pow, Bw.e_and, Bw.e_app, Bw.e_adda, Bw.e_suba, Bw.e_mula, Bw.e_diva, Bw.e_lt, Bw.e_le, Bw.e_gt, Bw.e_ge, Bw.e_eq, Bw.e_ne, Bw.e_eqb, Bw.e_neb, Bw.e_neg, Bw.e_trb, Bw.e_bool, Bw.e_int, Bw.e_ixt, Bw.e_ixl, Bw.at_z, Bw.at_o, Bw.at_t, List.length_cons, List.length_nil, List.cons_append, List.nil_append, List.append_nil, List.replicate_succ, List.replicate_zero, List.getElem?_cons_zero, List.getElem?_cons_succ, List.set_cons_succ, List.set_cons_zero, Nat.reduceSub, Nat.reduceAdd, Option.bind_some, Option.map_some, if_true, if_false, decide_true, decide_false, Bool.false_eq_true, Bool.not_true, Bool.not_false, if_pos, K02.two_le, e3, e]
/-! halvings -/
theorem two_mod (k : Nat) : (2 : Int) ^ (k + 1) % 2 = 0 := by rw [two_succ]; exact Int.mul_emod_left _ _
theorem two_half (k : Nat) : (2 : Int) ^ (k + 1) / 2 = 2 ^ k := by rw [two_succ]; exact Int.mul_ediv_cancel _ (by decide)
theorem cdiv_2 (i : Int) : CDivW i 2 := ⟨by decide, by decide⟩
theorem pos2 : (0 : Int) < 2 := by decide
theorem one_mod : decide ((1 : Int) % 2 = 0) = false := by decide
theorem zero_eq : decide ((0 : Int) = 0) = true := by decide
theorem wh_halv : ∀ (j n : Nat) (i : Int), j < n → whileL (wc1_halv 400) (lb2_halv 400) n ⟨[.dat (.int (2 ^ j)), .dat (.int i)], []⟩ = .ok .nx ⟨[.dat (.int 1), .dat (.int (i + (j : Nat)))], []⟩
  | 0, n + 1, i, _ => by
    have e : wc1_halv 400 ⟨[.dat (.int (2 ^ 0)), .dat (.int i)], []⟩ = .ok false ⟨[.dat (.int 1), .dat (.int i)], []⟩ := by
      simp only [wc1_halv, Bw.startS, Bw.startS.go, ↓Bw.e_sq, ↓Bw.e_sq0, ↓Bw.bnd_ap, ↓Bw.e_ret, ↓Bw.e_some, ↓Bw.e_evL0, ↓Bw.e_evL, ↓Bw.e_args0, ↓Bw.e_argsD, ↓Bw.e_argsC, Bw.rdS, Bw.pkS, Bw.cellOf, Bw.e_setS, Bw.e_setO, Bw.e_add, Bw.e_sub, Bw.e_mul, Bw.e_div, Bw.e_mod, Bw.e_pow, Bw.e_and, Bw.e_app, Bw.e_adda, Bw.e_suba, Bw.e_mula, Bw.e_diva, Bw.e_lt, Bw.e_le, Bw.e_gt, Bw.e_ge, Bw.e_eq, Bw.e_ne, Bw.e_eqb, Bw.e_neb, Bw.e_neg, Bw.e_trb, Bw.e_bool, Bw.e_int, Bw.e_ixt, Bw.e_ixl, Bw.at_z, Bw.at_o, Bw.at_t, List.length_cons, List.length_nil, List.cons_append, List.nil_append, List.append_nil, List.replicate_succ, List.replicate_zero, List.getElem?_cons_zero, List.getElem?_cons_succ, List.set_cons_succ, List.set_cons_zero, Nat.reduceSub, Nat.reduceAdd, Option.bind_some, Option.map_some, if_true, if_false, decide_true, decide_false, Bool.false_eq_true, Bool.not_true, Bool.not_false, if_pos, K02.two_le, Int.pow_zero, pos2, one_mod]
    show bnd _ _ _ = _
    rw [bnd_of e, Int.natCast_zero, Int.add_zero]
    rfl
  | j + 1, n + 1, i, h => by
    have e : wc1_halv 400 ⟨[.dat (.int (2 ^ (j + 1))), .dat (.int i)], []⟩ = .ok true ⟨[.dat (.int (2 ^ (j + 1))), .dat (.int i)], []⟩ := by
      simp only [wc1_halv, Bw.startS, Bw.startS.go, ↓Bw.e_sq, ↓Bw.e_sq0, ↓Bw.bnd_ap, ↓Bw.e_ret, ↓Bw.e_some, ↓Bw.e_evL0, ↓Bw.e_evL, ↓Bw.e_args0, ↓Bw.e_argsD, ↓Bw.e_argsC, Bw.rdS, Bw.pkS, Bw.cellOf, Bw.e_setS, Bw.e_setO, Bw.e_add, Bw.e_sub, Bw.e_mul, Bw.e_div, Bw.e_mod, Bw.e_pow, Bw.e_and, Bw.e_app, Bw.e_adda, Bw.e_suba, Bw.e_mula, Bw.e_diva, Bw.e_lt, Bw.e_le, Bw.e_gt, Bw.e_ge, Bw.e_eq, Bw.e_ne, Bw.e_eqb, Bw.e_neb, Bw.e_neg, Bw.e_trb, Bw.e_bool, Bw.e_int, Bw.e_ixt, Bw.e_ixl, Bw.at_z, Bw.at_o, Bw.at_t, List.length_cons, List.length_nil, List.cons_append, List.nil_append, List.append_nil, List.replicate_succ, List.replicate_zero, List.getElem?_cons_zero, List.getElem?_cons_succ, List.set_cons_succ, List.set_cons_zero, Nat.reduceSub, Nat.reduceAdd, Option.bind_some, Option.map_some, if_true, if_false, decide_true, decide_false, Bool.false_eq_true, Bool.not_true, Bool.not_false, if_pos, K02.two_le, two_mod, pos2, zero_eq]
    have e2 : lb2_halv 400 ⟨[.dat (.int (2 ^ (j + 1))), .dat (.int i)], []⟩ = .ok .nx ⟨[.dat (.int (2 ^ j)), .dat (.int (i + 1))], []⟩ := by
      simp only [lb2_halv, Bw.startS, Bw.startS.go, ↓Bw.e_sq, ↓Bw.e_sq0, ↓Bw.bnd_ap, ↓Bw.e_ret, ↓Bw.e_some, ↓Bw.e_evL0, ↓Bw.e_evL, ↓Bw.e_args0, ↓Bw.e_argsD, ↓Bw.e_argsC, Bw.rdS, Bw.pkS, Bw.cellOf, Bw.e_setS, Bw.e_setO, Bw.e_add, Bw.e_sub, Bw.e_mul, Bw.e_div, Bw.e_mod, Bw.e_pow, Bw.e_and, Bw.e_app, Bw.e_adda, Bw.e_suba, Bw.e_mula, Bw.e_diva, Bw.e_lt, Bw.e_le, Bw.e_gt, Bw.e_ge, Bw.e_eq, Bw.e_ne, Bw.e_eqb, Bw.e_neb, Bw.e_neg, Bw.e_trb, Bw.e_bool, Bw.e_int, Bw.e_ixt, Bw.e_ixl, Bw.at_z, Bw.at_o, Bw.at_t, List.length_cons, List.length_nil, List.cons_append, List.nil_append, List.append_nil, List.replicate_succ, List.replicate_zero, List.getElem?_cons_zero, List.getElem?_cons_succ, List.set_cons_succ, List.set_cons_zero, Nat.reduceSub, Nat.reduceAdd, Option.bind_some, Option.map_some, if_true, if_false, decide_true, decide_false, Bool.false_eq_true, Bool.not_true, Bool.not_false, if_pos, K02.two_le, cdiv_2, two_half]
    have e3 := wh_halv j n (i + 1) (by omega)
    show bnd _ _ _ = _
    rw [bnd_of e, if_pos rfl]
    show bnd _ _ _ = _
    rw [bnd_of e2]
    show whileL _ _ n _ = _
    rw [e3, show i + 1 + (j : Nat) = i + ((j + 1 : Nat) : Int) by omega]
theorem ev_halv (k : Nat) (h : k < 400) : f_halv.run [.int (2 ^ k)] [] = some (.val (.int (k : Nat)) []) := by
  have e := wh_halv k 400 0 h
  rw [Int.zero_add] at e
  refine run_mkF (s' := ⟨[.dat (.int 1), .dat (.int (k : Nat))], []⟩) ?_
  simp only [cb_halv, Bw.startS, Bw.startS.go, ↓Bw.e_sq, ↓Bw.e_sq0, ↓Bw.bnd_ap, ↓Bw.e_ret, ↓Bw.e_some, ↓Bw.e_evL0, ↓Bw.e_evL, ↓Bw.e_args0, ↓Bw.e_argsD, ↓Bw.e_argsC, Bw.rdS, Bw.pkS, Bw.cellOf, Bw.e_setS, Bw.e_setO, Bw.e_add, Bw.e_sub, Bw.e_mul, Bw.e_div, Bw.e_mod, Bw.e_pow, Bw.e_and, Bw.e_app, Bw.e_adda, Bw.e_suba, Bw.e_mula, Bw.e_diva, Bw.e_lt, Bw.e_le, Bw.e_gt, Bw.e_ge, Bw.e_eq, Bw.e_ne, Bw.e_eqb, Bw.e_neb, Bw.e_neg, Bw.e_trb, Bw.e_bool, Bw.e_int, Bw.e_ixt, Bw.e_ixl, Bw.at_z, Bw.at_o, Bw.at_t, List.length_cons, List.length_nil, List.cons_append, List.nil_append, List.append_nil, List.replicate_succ, List.replicate_zero, List.getElem?_cons_zero, List.getElem?_cons_succ, List.set_cons_succ, List.set_cons_zero, Nat.reduceSub, Nat.reduceAdd, Option.bind_some, Option.map_some, if_true, if_false, decide_true, decide_false, Bool.false_eq_true, Bool.not_true, Bool.not_false, if_pos, K02.two_le, e]
theorem ev_figs {x : Int × Nat} (h : x.2 < 400) : f_figs.run [pn x] [] = some (.val (.int (x.2 : Nat)) []) := by
  refine run_mkF (s' := ⟨[.dat (pn x)], []⟩) ?_
  simp only [cb_figs, Bw.startS, Bw.startS.go, ↓Bw.e_sq, ↓Bw.e_sq0, ↓Bw.bnd_ap, ↓Bw.e_ret, ↓Bw.e_some, ↓Bw.e_evL0, ↓Bw.e_evL, ↓Bw.e_args0, ↓Bw.e_argsD, ↓Bw.e_argsC, Bw.rdS, Bw.pkS, Bw.cellOf, Bw.e_setS, Bw.e_setO, Bw.e_add, Bw.e_sub, Bw.e_mul, Bw.e_div, Bw.e_mod, Bw.e_pow, Bw.e_and, Bw.e_app, Bw.e_adda, Bw.e_suba, Bw.e_mula, Bw.e_diva, Bw.e_lt, Bw.e_le, Bw.e_gt, Bw.e_ge, Bw.e_eq, Bw.e_ne, Bw.e_eqb, Bw.e_neb, Bw.e_neg, Bw.e_trb, Bw.e_bool, Bw.e_int, Bw.e_ixt, Bw.e_ixl, Bw.at_z, Bw.at_o, Bw.at_t, List.length_cons, List.length_nil, List.cons_append, List.nil_append, List.append_nil, List.replicate_succ, List.replicate_zero, List.getElem?_cons_zero, List.getElem?_cons_succ, List.set_cons_succ, List.set_cons_zero, Nat.reduceSub, Nat.reduceAdd, Option.bind_some, Option.map_some, if_true, if_false, decide_true, decide_false, Bool.false_eq_true, Bool.not_true, Bool.not_false, if_pos, K02.two_le, pn, call_nil (ev_halv _ h)]
theorem one_lt (j : Nat) : decide ((1 : Int) < 2 ^ (j + 1)) = true := by
  have := two_pos j
  rw [two_succ]
  exact decide_eq_true (by omega)
theorem one_not : decide ((1 : Int) < 1) = false := by decide
theorem hun : rngD (.int 100) = some ((List.range 100).map r0) := rng_nat 100 (by decide)
theorem ev_lsize {x : Int × Nat} (h : x.2 ≤ 100) : f_lsize.run [pn x] [] = some (.val (.int (x.2 : Nat)) []) := by
  obtain ⟨s', e, d, hd⟩ := for_inv (asg := fun x => setS 3 x) (body := lb1_lsize 400) (fun n s => ∃ d, s = ⟨[.dat (pn x), .dat (.int (2 ^ (x.2 - n))), .dat (.int (min n x.2 : Nat)), d], []⟩) ((List.range 100).map r0) 0 ⟨[.dat (pn x), .dat (.int (2 ^ x.2)), .dat (.int 0), .un], []⟩ ⟨.un, by rw [Nat.zero_min]; rfl⟩ (by
    intro i hi s ⟨d, hs⟩
    subst hs
    refine ⟨⟨[.dat (pn x), .dat (.int (2 ^ (x.2 - (0 + i + 1)))), .dat (.int (min (0 + i + 1) x.2 : Nat)), .dat (((List.range 100).map r0)[i])], []⟩, ?_, _, rfl⟩
    by_cases hl : 0 + i < x.2
    · obtain ⟨j, hj⟩ : ∃ j, x.2 - (0 + i) = j + 1 := ⟨x.2 - (0 + i) - 1, by omega⟩
      have e1 : x.2 - (0 + i + 1) = j := by omega
      have e2 : ((min (0 + i) x.2 : Nat) : Int) + 1 = (min (0 + i + 1) x.2 : Nat) := by omega
      rw [hj, e1, ← e2]
      simp only [lb1_lsize, Bw.startS, Bw.startS.go, ↓Bw.e_sq, ↓Bw.e_sq0, ↓Bw.bnd_ap, ↓Bw.e_ret, ↓Bw.e_some, ↓Bw.e_evL0, ↓Bw.e_evL, ↓Bw.e_args0, ↓Bw.e_argsD, ↓Bw.e_argsC, Bw.rdS, Bw.pkS, Bw.cellOf, Bw.e_setS, Bw.e_setO, Bw.e_add, Bw.e_sub, Bw.e_mul, Bw.e_div, Bw.e_mod, Bw.e_pow, Bw.e_and, Bw.e_app, Bw.e_adda, Bw.e_suba, Bw.e_mula, Bw.e_diva, Bw.e_lt, Bw.e_le, Bw.e_gt, Bw.e_ge, Bw.e_eq, Bw.e_ne, Bw.e_eqb, Bw.e_neb, Bw.e_neg, Bw.e_trb, Bw.e_bool, Bw.e_int, Bw.e_ixt, Bw.e_ixl, Bw.at_z, Bw.at_o, Bw.at_t, List.length_cons, List.length_nil, List.cons_append, List.nil_append, List.append_nil, List.replicate_succ, List.replicate_zero, List.getElem?_cons_zero, List.getElem?_cons_succ, List.set_cons_succ, List.set_cons_zero, Nat.reduceSub, Nat.reduceAdd, Option.bind_some, Option.map_some, if_true, if_false, decide_true, decide_false, Bool.false_eq_true, Bool.not_true, Bool.not_false, if_pos, K02.two_le, nmM, one_lt, cdiv_2, two_half]
    · have e1 : x.2 - (0 + i) = 0 := by omega
      have e3 : x.2 - (0 + i + 1) = 0 := by omega
      have e2 : min (0 + i) x.2 = min (0 + i + 1) x.2 := by omega
      rw [e1, e3, e2, Int.pow_zero]
      simp only [lb1_lsize, Bw.startS, Bw.startS.go, ↓Bw.e_sq, ↓Bw.e_sq0, ↓Bw.bnd_ap, ↓Bw.e_ret, ↓Bw.e_some, ↓Bw.e_evL0, ↓Bw.e_evL, ↓Bw.e_args0, ↓Bw.e_argsD, ↓Bw.e_argsC, Bw.rdS, Bw.pkS, Bw.cellOf, Bw.e_setS, Bw.e_setO, Bw.e_add, Bw.e_sub, Bw.e_mul, Bw.e_div, Bw.e_mod, Bw.e_pow, Bw.e_and, Bw.e_app, Bw.e_adda, Bw.e_suba, Bw.e_mula, Bw.e_diva, Bw.e_lt, Bw.e_le, Bw.e_gt, Bw.e_ge, Bw.e_eq, Bw.e_ne, Bw.e_eqb, Bw.e_neb, Bw.e_neg, Bw.e_trb, Bw.e_bool, Bw.e_int, Bw.e_ixt, Bw.e_ixl, Bw.at_z, Bw.at_o, Bw.at_t, List.length_cons, List.length_nil, List.cons_append, List.nil_append, List.append_nil, List.replicate_succ, List.replicate_zero, List.getElem?_cons_zero, List.getElem?_cons_succ, List.set_cons_succ, List.set_cons_zero, Nat.reduceSub, Nat.reduceAdd, Option.bind_some, Option.map_some, if_true, if_false, decide_true, decide_false, Bool.false_eq_true, Bool.not_true, Bool.not_false, if_pos, K02.two_le, one_not])
  subst hd
  rw [List.length_map, List.length_range, Nat.zero_add, Nat.min_eq_right h] at e
  refine run_mkF (s' := ⟨[.dat (pn x), .dat (.int (2 ^ (x.2 - 100))), .dat (.int (x.2 : Nat)), d], []⟩) ?_
  unfold pn at e ⊢
  simp only [cb_lsize, Bw.startS, Bw.startS.go, ↓Bw.e_sq, ↓Bw.e_sq0, ↓Bw.bnd_ap, ↓Bw.e_ret, ↓Bw.e_some, ↓Bw.e_evL0, ↓Bw.e_evL, ↓Bw.e_args0, ↓Bw.e_argsD, ↓Bw.e_argsC, Bw.rdS, Bw.pkS, Bw.cellOf, Bw.e_setS, Bw.e_setO, Bw.e_add, Bw.e_sub, Bw.e_mul, Bw.e_div, Bw.e_mod, Bw.e_pow, Bw.e_and, Bw.e_app, Bw.e_adda, Bw.e_suba, Bw.e_mula, Bw.e_diva, Bw.e_lt, Bw.e_le, Bw.e_gt, Bw.e_ge, Bw.e_eq, Bw.e_ne, Bw.e_eqb, Bw.e_neb, Bw.e_neg, Bw.e_trb, Bw.e_bool, Bw.e_int, Bw.e_ixt, Bw.e_ixl, Bw.at_z, Bw.at_o, Bw.at_t, List.length_cons, List.length_nil, List.cons_append, List.nil_append, List.append_nil, List.replicate_succ, List.replicate_zero, List.getElem?_cons_zero, List.getElem?_cons_succ, List.set_cons_succ, List.set_cons_zero, Nat.reduceSub, Nat.reduceAdd, Option.bind_some, Option.map_some, if_true, if_false, decide_true, decide_false, Bool.false_eq_true, Bool.not_true, Bool.not_false, if_pos, K02.two_le, nmM, hun, e]
/-! cutting -/
theorem ev_cutof {x : Int × Nat} (f : Nat) (hx : B 1999 x) (hf : f < 2000) : f_cutof.run [pn x, .int (f : Nat)] [] = some (.val (pn (cut x f)) []) := by
  refine run_mkF (s' := ⟨[.dat (pn x), .dat (.int (f : Nat)), .dat (.int (2 ^ f))], []⟩) ?_
  have q : x.2 < 9000 := Nat.lt_of_le_of_lt hx.2 (by decide)
  have q2 : f < 9000 := Nat.lt_of_lt_of_le hf (by decide)
  simp only [cb_cutof, Bw.startS, Bw.startS.go, ↓Bw.e_sq, ↓Bw.e_sq0, ↓Bw.bnd_ap, ↓Bw.e_ret, ↓Bw.e_some, ↓Bw.e_evL0, ↓Bw.e_evL, ↓Bw.e_args0, ↓Bw.e_argsD, ↓Bw.e_argsC, Bw.rdS, Bw.pkS, Bw.cellOf, Bw.e_setS, Bw.e_setO, Bw.e_add, Bw.e_sub, Bw.e_mul, Bw.e_div, Bw.e_mod, Bw.e_pow, Bw.e_and, Bw.e_app, Bw.e_adda, Bw.e_suba, Bw.e_mula, Bw.e_diva, Bw.e_lt, Bw.e_le, Bw.e_gt, Bw.e_ge, Bw.e_eq, Bw.e_ne, Bw.e_eqb, Bw.e_neb, Bw.e_neg, Bw.e_trb, Bw.e_bool, Bw.e_int, Bw.e_ixt, Bw.e_ixl, Bw.at_z, Bw.at_o, Bw.at_t, List.length_cons, List.length_nil, List.cons_append, List.nil_append, List.append_nil, List.replicate_succ, List.replicate_zero, List.getElem?_cons_zero, List.getElem?_cons_succ, List.set_cons_succ, List.set_cons_zero, Nat.reduceSub, Nat.reduceAdd, Option.bind_some, Option.map_some, if_true, if_false, decide_true, decide_false, Bool.false_eq_true, Bool.not_true, Bool.not_false, if_pos, K02.two_le, pn, call_nil (ev_pow f (Nat.lt_of_lt_of_le hf (by decide))), mulok hx.one (two_lt hf), cdiv_two _ q, call_nil (ev_numof _ _ q2), cut]
theorem ev_lfloor {x : Int × Nat} (f : Nat) (hx : B 1999 x) (hf : f < 2000) : f_lfloor.run [pn x, .int (f : Nat)] [] = some (.val (pn (cut x f)) []) := by
  have q : x.2 < 9000 := Nat.lt_of_le_of_lt hx.2 (by decide)
  have q2 : f < 9000 := Nat.lt_of_lt_of_le hf (by decide)
  obtain ⟨s', e, d, hd⟩ := for_inv (asg := fun x => setS 3 x) (body := lb1_lfloor 400) (fun n s => ∃ d, s = ⟨[.dat (pn x), .dat (.int (f : Nat)), .dat (.int (2 ^ n)), d], []⟩) ((List.range f).map r0) 0 ⟨[.dat (pn x), .dat (.int (f : Nat)), .dat (.int 1), .un], []⟩ ⟨_, rfl⟩ (by
    intro i hi s ⟨d, hs⟩
    subst hs
    refine ⟨⟨[.dat (pn x), .dat (.int (f : Nat)), .dat (.int (2 ^ (0 + i + 1))), .dat (((List.range f).map r0)[i])], []⟩, ?_, _, rfl⟩
    have q : CMul (2 ^ (0 + i)) 2 ∨ CMulW (2 ^ (0 + i)) 2 := .inl (cmul_two _)
    simp only [lb1_lfloor, Bw.startS, Bw.startS.go, ↓Bw.e_sq, ↓Bw.e_sq0, ↓Bw.bnd_ap, ↓Bw.e_ret, ↓Bw.e_some, ↓Bw.e_evL0, ↓Bw.e_evL, ↓Bw.e_args0, ↓Bw.e_argsD, ↓Bw.e_argsC, Bw.rdS, Bw.pkS, Bw.cellOf, Bw.e_setS, Bw.e_setO, Bw.e_add, Bw.e_sub, Bw.e_mul, Bw.e_div, Bw.e_mod, Bw.e_pow, Bw.e_and, Bw.e_app, Bw.e_adda, Bw.e_suba, Bw.e_mula, Bw.e_diva, Bw.e_lt, Bw.e_le, Bw.e_gt, Bw.e_ge, Bw.e_eq, Bw.e_ne, Bw.e_eqb, Bw.e_neb, Bw.e_neg, Bw.e_trb, Bw.e_bool, Bw.e_int, Bw.e_ixt, Bw.e_ixl, Bw.at_z, Bw.at_o, Bw.at_t, List.length_cons, List.length_nil, List.cons_append, List.nil_append, List.append_nil, List.replicate_succ, List.replicate_zero, List.getElem?_cons_zero, List.getElem?_cons_succ, List.set_cons_succ, List.set_cons_zero, Nat.reduceSub, Nat.reduceAdd, Option.bind_some, Option.map_some, if_true, if_false, decide_true, decide_false, Bool.false_eq_true, Bool.not_true, Bool.not_false, if_pos, K02.two_le, two_succ, q])
  subst hd
  refine run_mkF (s' := ⟨[.dat (pn x), .dat (.int (f : Nat)), .dat (.int (2 ^ f)), d], []⟩) ?_
  rw [List.length_map, List.length_range, Nat.zero_add] at e
  have e3 : rngD (.int (f : Nat)) = some ((List.range f).map r0) := rng_nat f (Nat.lt_of_lt_of_le hf (by decide))
  unfold pn at e ⊢
  simp only [cb_lfloor, Bw.startS, Bw.startS.go, ↓Bw.e_sq, ↓Bw.e_sq0, ↓Bw.bnd_ap, ↓Bw.e_ret, ↓Bw.e_some, ↓Bw.e_evL0, ↓Bw.e_evL, ↓Bw.e_args0, ↓Bw.e_argsD, ↓Bw.e_argsC, Bw.rdS, Bw.pkS, Bw.cellOf, Bw.e_setS, Bw.e_setO, Bw.e_add, Bw.e_sub, Bw.e_mul, Bw.e_div, Bw.e_mod, Bw.e_pow, Bw.e_and, Bw.e_app, Bw.e_adda, Bw.e_suba, Bw.e_mula, Bw.e_diva, Bw.e_lt, Bw.e_le, Bw.e_gt, Bw.e_ge, Bw.e_eq, Bw.e_ne, Bw.e_eqb, Bw.e_neb, Bw.e_neg, Bw.e_trb, Bw.e_bool, Bw.e_int, Bw.e_ixt, Bw.e_ixl, Bw.at_z, Bw.at_o, Bw.at_t, List.length_cons, List.length_nil, List.cons_append, List.nil_append, List.append_nil, List.replicate_succ, List.replicate_zero, List.getElem?_cons_zero, List.getElem?_cons_succ, List.set_cons_succ, List.set_cons_zero, Nat.reduceSub, Nat.reduceAdd, Option.bind_some, Option.map_some, if_true, if_false, decide_true, decide_false, Bool.false_eq_true, Bool.not_true, Bool.not_false, if_pos, K02.two_le, e3, e, mulok hx.one (two_lt hf), cdiv_two _ q, call_nil (ev_lnum _ _ q2), pn, cut]
end K02

set_option Elab.async false
set_option linter.all false
set_option maxRecDepth 100000
set_option maxHeartbeats 4000000
noncomputable section
namespace K02
open PySem L2 PySem.Spec Bw
/-! ### sizes -/
theorem B_nrm {a : Int} {k n : Nat} (h : a.natAbs < 2 ^ n) (hk : k ≤ n) : B n (nrm a k) := ⟨Nat.lt_of_le_of_lt (nrm_abs a k) h, Nat.le_trans (nrm_le a k) hk⟩
theorem mul_lt {a b n m : Nat} (h : a < 2 ^ n) (h' : b ≤ 2 ^ m) : a * b < 2 ^ (n + m) := by
  rw [Nat.pow_add]
  exact Nat.lt_of_le_of_lt (Nat.mul_le_mul_left _ h') (Nat.mul_lt_mul_of_pos_right h (Nat.two_pow_pos m))
theorem B_add {x y : Int × Nat} {n m : Nat} (hx : B n x) (hy : B m y) : B (n + m + 1) (add x y) := by
  refine B_nrm ?_ (by have := hx.2; have := hy.2; omega)
  have h1 : (x.1 * 2 ^ y.2).natAbs < 2 ^ (n + m) := by
    rw [Int.natAbs_mul, two_abs]; exact mul_lt hx.1 (Nat.pow_le_pow_right (by decide) hy.2)
  have h2 : (y.1 * 2 ^ x.2).natAbs < 2 ^ (n + m) := by
    rw [Int.natAbs_mul, two_abs, Nat.add_comm n m]; exact mul_lt hy.1 (Nat.pow_le_pow_right (by decide) hx.2)
  have h3 := Int.natAbs_add_le (x.1 * 2 ^ y.2) (y.1 * 2 ^ x.2)
  rw [Nat.pow_succ]
  omega
theorem natAbs_div_le (a : Int) (k : Nat) : (a / 2 ^ k).natAbs ≤ a.natAbs := by
  have p := two_pos k
  have h1 := Int.ediv_mul_le a (Int.ne_of_gt p)
  have h2 := Int.lt_ediv_add_one_mul_self a p
  by_cases h0 : 0 ≤ a
  · have q := Int.ediv_nonneg h0 (Int.le_of_lt p)
    have : a / 2 ^ k ≤ a := by
      have := Int.mul_le_mul_of_nonneg_left (show (1 : Int) ≤ 2 ^ k by omega) q
      omega
    omega
  · have q : a / 2 ^ k < 0 := Int.ediv_neg_of_neg_of_pos (by omega) p
    have : a ≤ a / 2 ^ k := by
      by_cases hq : a ≤ a / 2 ^ k
      · exact hq
      · have q2 : a / 2 ^ k + 1 ≤ a := by omega
        have q3 : (a / 2 ^ k + 1) * 2 ^ k ≤ (a / 2 ^ k + 1) * 1 := Int.mul_le_mul_of_nonpos_left (by omega) (show (1 : Int) ≤ 2 ^ k by omega)
        omega
    omega
theorem B_cut {x : Int × Nat} {n m f : Nat} (hx : B n x) (hf : f ≤ m) : B (n + m) (cut x f) := by
  refine B_nrm (Nat.lt_of_le_of_lt (natAbs_div_le _ _) ?_) (by omega)
  rw [Int.natAbs_mul, two_abs]
  exact mul_lt hx.1 (Nat.pow_le_pow_right (by decide) hf)
/-! ### least and most -/
def lo (m : Int × Nat) : List (Int × Nat) → Int × Nat
  | [] => m
  | y :: r => lo (if below y m then y else m) r
def hi (m : Int × Nat) : List (Int × Nat) → Int × Nat
  | [] => m
  | y :: r => hi (if below m y then y else m) r
theorem lo_self (m : Int × Nat) (r : List (Int × Nat)) : lo m (m :: r) = lo m r := by
  show lo (if below m m then m else m) r = _
  rw [below_self]; rfl
theorem hi_self (m : Int × Nat) (r : List (Int × Nat)) : hi m (m :: r) = hi m r := by
  show hi (if below m m then m else m) r = _
  rw [below_self]; rfl
theorem for_least (a0 a2 : Sl) : ∀ (xs : List (Int × Nat)) (m : Int × Nat) (d : Sl), B 1999 m → (∀ x ∈ xs, B 1999 x) → ∃ d', forL (fun x => setS 3 x) (lb1_leastnum 400) (xs.map pn) ⟨[a0, .dat (pn m), a2, d], []⟩ = .ok .nx ⟨[a0, .dat (pn (lo m xs)), a2, d'], []⟩
  | [], m, d, _, _ => ⟨d, rfl⟩
  | y :: r, m, d, hm, h => by
    have hy := h y (List.mem_cons_self ..)
    have e : bnd (setS 3 (pn y)) (fun _ => lb1_leastnum 400) ⟨[a0, .dat (pn m), a2, d], []⟩ = .ok .nx ⟨[a0, .dat (pn (if below y m then y else m)), a2, .dat (pn y)], []⟩ := by
      cases hb : below y m <;> simp only [lb1_leastnum, Bw.startS, Bw.startS.go, ↓Bw.e_sq, ↓Bw.e_sq0, ↓Bw.bnd_ap, ↓Bw.e_ret, ↓Bw.e_some, ↓Bw.e_evL0, ↓Bw.e_evL, ↓Bw.e_args0, ↓Bw.e_argsD, ↓Bw.e_argsC, Bw.rdS, Bw.pkS, Bw.cellOf, Bw.e_setS, Bw.e_setO, Bw.e_add, Bw.e_sub, Bw.e_mul, Bw.e_div, Bw.e_mod, Bw.e_pow, Bw.e_and, Bw.e_app, Bw.e_adda, Bw.e_suba, Bw.e_mula, Bw.e_diva, Bw.e_lt, Bw.e_le, Bw.e_gt, Bw.e_ge, Bw.e_eq, Bw.e_ne, Bw.e_eqb, Bw.e_neb, Bw.e_neg, Bw.e_trb, Bw.e_bool, Bw.e_int, Bw.e_ixt, Bw.e_ixl, Bw.at_z, Bw.at_o, Bw.at_t, List.length_cons, List.length_nil, List.cons_append, List.nil_append, List.append_nil, List.replicate_succ, List.replicate_zero, List.getElem?_cons_zero, List.getElem?_cons_succ, List.set_cons_succ, List.set_cons_zero, Nat.reduceSub, Nat.reduceAdd, Option.bind_some, Option.map_some, if_true, if_false, decide_true, decide_false, Bool.false_eq_true, Bool.not_true, Bool.not_false, if_pos, K02.two_le, call_nil (ev_isbelow hy hm), hb]
    obtain ⟨d', e'⟩ := for_least a0 a2 r (if below y m then y else m) (.dat (pn y)) (by split <;> assumption) fun x hx => h x (List.mem_cons_of_mem _ hx)
    refine ⟨d', ?_⟩
    rw [List.map_cons, for_step e]
    exact e'
theorem for_most (a0 a2 : Sl) : ∀ (xs : List (Int × Nat)) (m : Int × Nat) (d : Sl), B 1999 m → (∀ x ∈ xs, B 1999 x) → ∃ d', forL (fun x => setS 3 x) (lb1_mostnum 400) (xs.map pn) ⟨[a0, .dat (pn m), a2, d], []⟩ = .ok .nx ⟨[a0, .dat (pn (hi m xs)), a2, d'], []⟩
  | [], m, d, _, _ => ⟨d, rfl⟩
  | y :: r, m, d, hm, h => by
    have hy := h y (List.mem_cons_self ..)
    have e : bnd (setS 3 (pn y)) (fun _ => lb1_mostnum 400) ⟨[a0, .dat (pn m), a2, d], []⟩ = .ok .nx ⟨[a0, .dat (pn (if below m y then y else m)), a2, .dat (pn y)], []⟩ := by
      cases hb : below m y <;> simp only [lb1_mostnum, Bw.startS, Bw.startS.go, ↓Bw.e_sq, ↓Bw.e_sq0, ↓Bw.bnd_ap, ↓Bw.e_ret, ↓Bw.e_some, ↓Bw.e_evL0, ↓Bw.e_evL, ↓Bw.e_args0, ↓Bw.e_argsD, ↓Bw.e_argsC, Bw.rdS, Bw.pkS, Bw.cellOf, Bw.e_setS, Bw.e_setO, Bw.e_add, Bw.e_sub, Bw.e_mul, Bw.e_div, Bw.e_mod, Bw.e_pow, Bw.e_and, Bw.e_app, Bw.e_adda, Bw.e_suba, Bw.e_mula, Bw.e_diva, Bw.e_lt, Bw.e_le, Bw.e_gt, Bw.e_ge, Bw.e_eq, Bw.e_ne, Bw.e_eqb, Bw.e_neb, Bw.e_neg, Bw.e_trb, Bw.e_bool, Bw.e_int, Bw.e_ixt, Bw.e_ixl, Bw.at_z, Bw.at_o, Bw.at_t, List.length_cons, List.length_nil, List.cons_append, List.nil_append, List.append_nil, List.replicate_succ, List.replicate_zero, List.getElem?_cons_zero, List.getElem?_cons_succ, List.set_cons_succ, List.set_cons_zero, Nat.reduceSub, Nat.reduceAdd, Option.bind_some, Option.map_some, if_true, if_false, decide_true, decide_false, Bool.false_eq_true, Bool.not_true, Bool.not_false, if_pos, K02.two_le, call_nil (ev_isbelow hm hy), hb]
    obtain ⟨d', e'⟩ := for_most a0 a2 r (if below m y then y else m) (.dat (pn y)) (by split <;> assumption) fun x hx => h x (List.mem_cons_of_mem _ hx)
    refine ⟨d', ?_⟩
    rw [List.map_cons, for_step e]
    exact e'
theorem star_one (d : D) (r : List D) (a0 a1 a2 a3 : Sl) : asgStar [fun y => setS 1 y] (fun y => setS 2 y) (.list (d :: r)) ⟨[a0, a1, a2, a3], []⟩ = .ok () ⟨[a0, .dat d, .dat (.list r), a3], []⟩ := by
  unfold asgStar seqD
  simp only
  rw [if_pos (by simp only [List.length_cons, List.length_nil]; omega)]
  rfl
theorem ev_least {x : Int × Nat} {xs : List (Int × Nat)} (hx : B 1999 x) (h : ∀ y ∈ xs, B 1999 y) : f_leastnum.run [.list ((x :: xs).map pn)] [] = some (.val (pn (lo x xs)) []) := by
  obtain ⟨d', e⟩ := for_least (.dat (.list (pn x :: xs.map pn))) (.dat (.list (xs.map pn))) xs x .un hx h
  refine run_mkF (s' := ⟨[.dat (.list (pn x :: xs.map pn)), .dat (pn (lo x xs)), .dat (.list (xs.map pn)), d'], []⟩) ?_
  rw [List.map_cons]
  simp only [cb_leastnum, Bw.startS, Bw.startS.go, ↓Bw.e_sq, ↓Bw.e_sq0, ↓Bw.bnd_ap, ↓Bw.e_ret, ↓Bw.e_some, ↓Bw.e_evL0, ↓Bw.e_evL, ↓Bw.e_args0, ↓Bw.e_argsD, ↓Bw.e_argsC, Bw.rdS, Bw.pkS, Bw.cellOf, Bw.e_setS, Bw.e_setO, Bw.e_add, Bw.e_sub, Bw.e_mul, Bw.e_div, Bw.e_mod, Bw.e_pow, Bw.e_and, Bw.e_app, Bw.e_adda, Bw.e_suba, Bw.e_mula, Bw.e_diva, Bw.e_lt, Bw.e_le, Bw.e_gt, Bw.e_ge, Bw.e_eq, Bw.e_ne, Bw.e_eqb, Bw.e_neb, Bw.e_neg, Bw.e_trb, Bw.e_bool, Bw.e_int, Bw.e_ixt, Bw.e_ixl, Bw.at_z, Bw.at_o, Bw.at_t, List.length_cons, List.length_nil, List.cons_append, List.nil_append, List.append_nil, List.replicate_succ, List.replicate_zero, List.getElem?_cons_zero, List.getElem?_cons_succ, List.set_cons_succ, List.set_cons_zero, Nat.reduceSub, Nat.reduceAdd, Option.bind_some, Option.map_some, if_true, if_false, decide_true, decide_false, Bool.false_eq_true, Bool.not_true, Bool.not_false, if_pos, K02.two_le, star_one, seqD, e]
theorem ev_most {x : Int × Nat} {xs : List (Int × Nat)} (hx : B 1999 x) (h : ∀ y ∈ xs, B 1999 y) : f_mostnum.run [.list ((x :: xs).map pn)] [] = some (.val (pn (hi x xs)) []) := by
  obtain ⟨d', e⟩ := for_most (.dat (.list (pn x :: xs.map pn))) (.dat (.list (xs.map pn))) xs x .un hx h
  refine run_mkF (s' := ⟨[.dat (.list (pn x :: xs.map pn)), .dat (pn (hi x xs)), .dat (.list (xs.map pn)), d'], []⟩) ?_
  rw [List.map_cons]
  simp only [cb_mostnum, Bw.startS, Bw.startS.go, ↓Bw.e_sq, ↓Bw.e_sq0, ↓Bw.bnd_ap, ↓Bw.e_ret, ↓Bw.e_some, ↓Bw.e_evL0, ↓Bw.e_evL, ↓Bw.e_args0, ↓Bw.e_argsD, ↓Bw.e_argsC, Bw.rdS, Bw.pkS, Bw.cellOf, Bw.e_setS, Bw.e_setO, Bw.e_add, Bw.e_sub, Bw.e_mul, Bw.e_div, Bw.e_mod, Bw.e_pow, Bw.e_and, Bw.e_app, Bw.e_adda, Bw.e_suba, Bw.e_mula, Bw.e_diva, Bw.e_lt, Bw.e_le, Bw.e_gt, Bw.e_ge, Bw.e_eq, Bw.e_ne, Bw.e_eqb, Bw.e_neb, Bw.e_neg, Bw.e_trb, Bw.e_bool, Bw.e_int, Bw.e_ixt, Bw.e_ixl, Bw.at_z, Bw.at_o, Bw.at_t, List.length_cons, List.length_nil, List.cons_append, List.nil_append, List.append_nil, List.replicate_succ, List.replicate_zero, List.getElem?_cons_zero, List.getElem?_cons_succ, List.set_cons_succ, List.set_cons_zero, Nat.reduceSub, Nat.reduceAdd, Option.bind_some, Option.map_some, if_true, if_false, decide_true, decide_false, Bool.false_eq_true, Bool.not_true, Bool.not_false, if_pos, K02.two_le, star_one, seqD, e]
/-! ### the same -/
/-- plain data of a depth -/
inductive Pl : Nat → D → Prop where
  | int {n : Nat} (i : Int) : Pl (n + 1) (.int i)
  | bool {n : Nat} (b : Bool) : Pl (n + 1) (.bool b)
  | list {n : Nat} (xs : List D) : (∀ x ∈ xs, Pl n x) → xs.length ≤ sizeLine → Pl (n + 1) (.list xs)
  | tuple {n : Nat} (xs : List D) : (∀ x ∈ xs, Pl n x) → xs.length ≤ sizeLine → Pl (n + 1) (.tuple xs)
theorem zip_self (xs : List D) : List.zipWith (fun x y => PyData.tuple [x, y]) xs xs = xs.map fun x => .tuple [x, x] := by
  induction xs with
  | nil => rfl
  | cons x r ih => rw [List.zipWith_cons_cons, ih, List.map_cons]
theorem same_all {n : Nat} (ih : ∀ d, Pl n d → (f_same n).run [d, d] [] = some (.val (.bool true) [])) (d : D) (xs : List D) (h : ∀ x ∈ xs, Pl n x) (hl : xs.length ≤ sizeLine) (hz : zipD d d = some (xs.map fun x => .tuple [x, x])) :
    ∃ out, cpr [3, 4] (it3_same (f_same n) 400) (fun x => asgTup [fun y => setS 3 y, fun y => setS 4 y] x) (ret true) (ce4_same (f_same n) 400) ⟨[.dat d, .dat d, .un, .un, .un], []⟩ = .ok out ⟨[.dat d, .dat d, .un, .un, .un], []⟩ ∧ allD (.list out) = some (.bool true) := by
  obtain ⟨out, s', e, hs, ha⟩ := all_comp (own := [3, 4]) (it := it3_same (f_same n) 400) (asg := fun x => asgTup [fun y => setS 3 y, fun y => setS 4 y] x) (elt := ce4_same (f_same n) 400) (fun _ s => s = ⟨[.dat d, .dat d, .un, .un, .un], []⟩)
    (ds := xs.map fun x => .tuple [x, x]) (s0 := ⟨[.dat d, .dat d, .un, .un, .un], []⟩) (s := ⟨[.dat d, .dat d, .un, .un, .un], []⟩) (by simp only [it3_same, Bw.startS, Bw.startS.go, ↓Bw.e_sq, ↓Bw.e_sq0, ↓Bw.bnd_ap, ↓Bw.e_ret, ↓Bw.e_some, ↓Bw.e_evL0, ↓Bw.e_evL, ↓Bw.e_args0, ↓Bw.e_argsD, ↓Bw.e_argsC, Bw.rdS, Bw.pkS, Bw.cellOf, Bw.e_setS, Bw.e_setO, Bw.e_add, Bw.e_sub, Bw.e_mul, Bw.e_div, Bw.e_mod, Bw.e_pow, Bw.e_and, Bw.e_app, Bw.e_adda, Bw.e_suba, Bw.e_mula, Bw.e_diva, Bw.e_lt, Bw.e_le, Bw.e_gt, Bw.e_ge, Bw.e_eq, Bw.e_ne, Bw.e_eqb, Bw.e_neb, Bw.e_neg, Bw.e_trb, Bw.e_bool, Bw.e_int, Bw.e_ixt, Bw.e_ixl, Bw.at_z, Bw.at_o, Bw.at_t, List.length_cons, List.length_nil, List.cons_append, List.nil_append, List.append_nil, List.replicate_succ, List.replicate_zero, List.getElem?_cons_zero, List.getElem?_cons_succ, List.set_cons_succ, List.set_cons_zero, Nat.reduceSub, Nat.reduceAdd, Option.bind_some, Option.map_some, if_true, if_false, decide_true, decide_false, Bool.false_eq_true, Bool.not_true, Bool.not_false, if_pos, K02.two_le, hz]) rfl rfl (by rw [List.length_map]; exact hl) (by
      intro i hi s hs
      subst hs
      rw [List.length_map] at hi
      refine ⟨⟨[.dat d, .dat d, .un, .dat xs[i], .dat xs[i]], []⟩, ?_, rfl⟩
      rw [List.getElem_map]
      simp only [ce4_same, asgTup, asgL, Bw.startS, Bw.startS.go, ↓Bw.e_sq, ↓Bw.e_sq0, ↓Bw.bnd_ap, ↓Bw.e_ret, ↓Bw.e_some, ↓Bw.e_evL0, ↓Bw.e_evL, ↓Bw.e_args0, ↓Bw.e_argsD, ↓Bw.e_argsC, Bw.rdS, Bw.pkS, Bw.cellOf, Bw.e_setS, Bw.e_setO, Bw.e_add, Bw.e_sub, Bw.e_mul, Bw.e_div, Bw.e_mod, Bw.e_pow, Bw.e_and, Bw.e_app, Bw.e_adda, Bw.e_suba, Bw.e_mula, Bw.e_diva, Bw.e_lt, Bw.e_le, Bw.e_gt, Bw.e_ge, Bw.e_eq, Bw.e_ne, Bw.e_eqb, Bw.e_neb, Bw.e_neg, Bw.e_trb, Bw.e_bool, Bw.e_int, Bw.e_ixt, Bw.e_ixl, Bw.at_z, Bw.at_o, Bw.at_t, List.length_cons, List.length_nil, List.cons_append, List.nil_append, List.append_nil, List.replicate_succ, List.replicate_zero, List.getElem?_cons_zero, List.getElem?_cons_succ, List.set_cons_succ, List.set_cons_zero, Nat.reduceSub, Nat.reduceAdd, Option.bind_some, Option.map_some, if_true, if_false, decide_true, decide_false, Bool.false_eq_true, Bool.not_true, Bool.not_false, if_pos, K02.two_le, call_nil (ih _ (h _ (List.getElem_mem hi)))])
  subst hs
  exact ⟨out, e, ha⟩
theorem ev_same : ∀ (n : Nat) (d : D), Pl n d → (f_same n).run [d, d] [] = some (.val (.bool true) [])
  | 0, d, h => by cases h
  | n + 1, d, h => by
    refine run_mkF (s' := ⟨[.dat d, .dat d, .un, .un, .un], []⟩) ?_
    cases h with
    | int i =>
      simp only [cb_same, Bw.startS, Bw.startS.go, ↓Bw.e_sq, ↓Bw.e_sq0, ↓Bw.bnd_ap, ↓Bw.e_ret, ↓Bw.e_some, ↓Bw.e_evL0, ↓Bw.e_evL, ↓Bw.e_args0, ↓Bw.e_argsD, ↓Bw.e_argsC, Bw.rdS, Bw.pkS, Bw.cellOf, Bw.e_setS, Bw.e_setO, Bw.e_add, Bw.e_sub, Bw.e_mul, Bw.e_div, Bw.e_mod, Bw.e_pow, Bw.e_and, Bw.e_app, Bw.e_adda, Bw.e_suba, Bw.e_mula, Bw.e_diva, Bw.e_lt, Bw.e_le, Bw.e_gt, Bw.e_ge, Bw.e_eq, Bw.e_ne, Bw.e_eqb, Bw.e_neb, Bw.e_neg, Bw.e_trb, Bw.e_bool, Bw.e_int, Bw.e_ixt, Bw.e_ixl, Bw.at_z, Bw.at_o, Bw.at_t, List.length_cons, List.length_nil, List.cons_append, List.nil_append, List.append_nil, List.replicate_succ, List.replicate_zero, List.getElem?_cons_zero, List.getElem?_cons_succ, List.set_cons_succ, List.set_cons_zero, Nat.reduceSub, Nat.reduceAdd, Option.bind_some, Option.map_some, if_true, if_false, decide_true, decide_false, Bool.false_eq_true, Bool.not_true, Bool.not_false, if_pos, K02.two_le, tyD, isiD, String.reduceBEq, Bool.or_false, Bool.false_or, Bool.and_false, Bool.false_and, Bool.true_and, Bool.and_true, Bool.true_or, cmpD]
      rw [eqB_eq, decide_eq_true (rfl : i = i)]
    | bool b => simp only [cb_same, Bw.startS, Bw.startS.go, ↓Bw.e_sq, ↓Bw.e_sq0, ↓Bw.bnd_ap, ↓Bw.e_ret, ↓Bw.e_some, ↓Bw.e_evL0, ↓Bw.e_evL, ↓Bw.e_args0, ↓Bw.e_argsD, ↓Bw.e_argsC, Bw.rdS, Bw.pkS, Bw.cellOf, Bw.e_setS, Bw.e_setO, Bw.e_add, Bw.e_sub, Bw.e_mul, Bw.e_div, Bw.e_mod, Bw.e_pow, Bw.e_and, Bw.e_app, Bw.e_adda, Bw.e_suba, Bw.e_mula, Bw.e_diva, Bw.e_lt, Bw.e_le, Bw.e_gt, Bw.e_ge, Bw.e_eq, Bw.e_ne, Bw.e_eqb, Bw.e_neb, Bw.e_neg, Bw.e_trb, Bw.e_bool, Bw.e_int, Bw.e_ixt, Bw.e_ixl, Bw.at_z, Bw.at_o, Bw.at_t, List.length_cons, List.length_nil, List.cons_append, List.nil_append, List.append_nil, List.replicate_succ, List.replicate_zero, List.getElem?_cons_zero, List.getElem?_cons_succ, List.set_cons_succ, List.set_cons_zero, Nat.reduceSub, Nat.reduceAdd, Option.bind_some, Option.map_some, if_true, if_false, decide_true, decide_false, Bool.false_eq_true, Bool.not_true, Bool.not_false, if_pos, K02.two_le, tyD, isiD, String.reduceBEq, Bool.or_false, Bool.false_or, Bool.and_false, Bool.false_and, Bool.true_and, Bool.and_true, Bool.true_or, cmpD]
    | list xs hx hl =>
      obtain ⟨out, e, ha⟩ := same_all (ev_same n) (.list xs) xs hx hl (by show some _ = _; rw [zip_self])
      simp only [cb_same, Bw.startS, Bw.startS.go, ↓Bw.e_sq, ↓Bw.e_sq0, ↓Bw.bnd_ap, ↓Bw.e_ret, ↓Bw.e_some, ↓Bw.e_evL0, ↓Bw.e_evL, ↓Bw.e_args0, ↓Bw.e_argsD, ↓Bw.e_argsC, Bw.rdS, Bw.pkS, Bw.cellOf, Bw.e_setS, Bw.e_setO, Bw.e_add, Bw.e_sub, Bw.e_mul, Bw.e_div, Bw.e_mod, Bw.e_pow, Bw.e_and, Bw.e_app, Bw.e_adda, Bw.e_suba, Bw.e_mula, Bw.e_diva, Bw.e_lt, Bw.e_le, Bw.e_gt, Bw.e_ge, Bw.e_eq, Bw.e_ne, Bw.e_eqb, Bw.e_neb, Bw.e_neg, Bw.e_trb, Bw.e_bool, Bw.e_int, Bw.e_ixt, Bw.e_ixl, Bw.at_z, Bw.at_o, Bw.at_t, List.length_cons, List.length_nil, List.cons_append, List.nil_append, List.append_nil, List.replicate_succ, List.replicate_zero, List.getElem?_cons_zero, List.getElem?_cons_succ, List.set_cons_succ, List.set_cons_zero, Nat.reduceSub, Nat.reduceAdd, Option.bind_some, Option.map_some, if_true, if_false, decide_true, decide_false, Bool.false_eq_true, Bool.not_true, Bool.not_false, if_pos, K02.two_le, tyD, isiD, String.reduceBEq, Bool.or_false, Bool.false_or, Bool.and_false, Bool.false_and, Bool.true_and, Bool.and_true, Bool.true_or, lenD, e, ha]
    | tuple xs hx hl =>
      obtain ⟨out, e, ha⟩ := same_all (ev_same n) (.tuple xs) xs hx hl (by show some _ = _; rw [zip_self])
      simp only [cb_same, Bw.startS, Bw.startS.go, ↓Bw.e_sq, ↓Bw.e_sq0, ↓Bw.bnd_ap, ↓Bw.e_ret, ↓Bw.e_some, ↓Bw.e_evL0, ↓Bw.e_evL, ↓Bw.e_args0, ↓Bw.e_argsD, ↓Bw.e_argsC, Bw.rdS, Bw.pkS, Bw.cellOf, Bw.e_setS, Bw.e_setO, Bw.e_add, Bw.e_sub, Bw.e_mul, Bw.e_div, Bw.e_mod, Bw.e_pow, Bw.e_and, Bw.e_app, Bw.e_adda, Bw.e_suba, Bw.e_mula, Bw.e_diva, Bw.e_lt, Bw.e_le, Bw.e_gt, Bw.e_ge, Bw.e_eq, Bw.e_ne, Bw.e_eqb, Bw.e_neb, Bw.e_neg, Bw.e_trb, Bw.e_bool, Bw.e_int, Bw.e_ixt, Bw.e_ixl, Bw.at_z, Bw.at_o, Bw.at_t, List.length_cons, List.length_nil, List.cons_append, List.nil_append, List.append_nil, List.replicate_succ, List.replicate_zero, List.getElem?_cons_zero, List.getElem?_cons_succ, List.set_cons_succ, List.set_cons_zero, Nat.reduceSub, Nat.reduceAdd, Option.bind_some, Option.map_some, if_true, if_false, decide_true, decide_false, Bool.false_eq_true, Bool.not_true, Bool.not_false, if_pos, K02.two_le, tyD, isiD, String.reduceBEq, Bool.or_false, Bool.false_or, Bool.and_false, Bool.false_and, Bool.true_and, Bool.and_true, Bool.true_or, lenD, e, ha]
end K02
end

set_option Elab.async false
set_option linter.all false
set_option maxRecDepth 100000
set_option maxHeartbeats 4000000
noncomputable section
namespace K02
open PySem L2 PySem.Spec Bw
/-! ### the box of draws -/
structure Bx where
  a : Int
  b : Int
  c : Int
def bx (b : Bx) : List D := [.int b.a, .int b.b, .int b.c]
structure BxOk (m : Nat) (x : Bx) : Prop where
  a : 0 ≤ x.a
  b : 0 ≤ x.b
  b' : x.b < 2 ^ 62
  c : 0 ≤ x.c
  c' : x.c ≤ (m : Int)
theorem BxOk.mono {m n : Nat} {b : Bx} (h : BxOk m b) (hn : m ≤ n) : BxOk n b := ⟨h.a, h.b, h.b', h.c, by have := h.c'; omega⟩
theorem put0 (x y z d : D) (g : List Sl) : chL 0 (putAt (.int 0) d) ⟨.bor 0 :: g, [[x, y, z]]⟩ = .ok .none ⟨.bor 0 :: g, [[d, y, z]]⟩ := rfl
theorem put2 (x y z d : D) (g : List Sl) : chL 0 (putAt (.int 2) d) ⟨.bor 0 :: g, [[x, y, z]]⟩ = .ok .none ⟨.bor 0 :: g, [[x, y, d]]⟩ := rfl
theorem log_n {n : Int} (h : 0 < n) (h' : n ≤ 2 ^ 60) (i : Int) : CDivW i n := ⟨h, Nat.lt_of_lt_of_le (log_lt (n := 61) (by omega) (by decide)) (by decide)⟩
theorem as_nat {v n : Int} (h : 0 ≤ v) (h' : v < n) : ∃ j : Nat, v = (j : Int) ∧ (j : Int) < n := ⟨v.toNat, by omega, by omega⟩
theorem ev_take {m : Nat} {b : Bx} (hb : BxOk m b) (hm : m < 2 ^ 20) {n : Int} (hn : 0 < n) (hn' : n ≤ 2 ^ 60) : ∃ (j : Nat) (b' : Bx), (j : Int) < n ∧ BxOk (m + 1) b' ∧ f_take.run [.int n] [bx b] = some (.val (.int (j : Nat)) [bx b']) := by
  have dn := log_n hn hn'
  by_cases h : 0 < b.a
  · obtain ⟨j, ej, hj⟩ := as_nat (Int.emod_nonneg b.a (Int.ne_of_gt hn)) (Int.emod_lt_of_pos b.a hn)
    refine ⟨j, ⟨b.a / n, b.b, b.c⟩, hj, ⟨Int.ediv_nonneg hb.a (Int.le_of_lt hn), hb.b, hb.b', hb.c, by have := hb.c'; show b.c ≤ _; omega⟩, ?_⟩
    refine run_mkF (s' := ⟨[.bor 0, .dat (.int n), .dat (.int (j : Nat)), .un, .un], [[.int (b.a / n), .int b.b, .int b.c]]⟩) ?_
    unfold bx
    simp only [cb_take, Bw.startS, Bw.startS.go, ↓Bw.e_sq, ↓Bw.e_sq0, ↓Bw.bnd_ap, ↓Bw.e_ret, ↓Bw.e_some, ↓Bw.e_evL0, ↓Bw.e_evL, ↓Bw.e_args0, ↓Bw.e_argsD, ↓Bw.e_argsC, Bw.rdS, Bw.pkS, Bw.cellOf, Bw.e_setS, Bw.e_setO, Bw.e_add, Bw.e_sub, Bw.e_mul, Bw.e_div, Bw.e_mod, Bw.e_pow, Bw.e_and, Bw.e_app, Bw.e_adda, Bw.e_suba, Bw.e_mula, Bw.e_diva, Bw.e_lt, Bw.e_le, Bw.e_gt, Bw.e_ge, Bw.e_eq, Bw.e_ne, Bw.e_eqb, Bw.e_neb, Bw.e_neg, Bw.e_trb, Bw.e_bool, Bw.e_int, Bw.e_ixt, Bw.e_ixl, Bw.at_z, Bw.at_o, Bw.at_t, List.length_cons, List.length_nil, List.cons_append, List.nil_append, List.append_nil, List.replicate_succ, List.replicate_zero, List.getElem?_cons_zero, List.getElem?_cons_succ, List.set_cons_succ, List.set_cons_zero, Nat.reduceSub, Nat.reduceAdd, Option.bind_some, Option.map_some, if_true, if_false, decide_true, decide_false, Bool.false_eq_true, Bool.not_true, Bool.not_false, if_pos, K02.two_le, h, hn, dn, ej, put0]
  · have p1 := hb.b
    have p2 := hb.b'
    have p3 := hb.c
    have p4 := hb.c'
    have q1 : CPow (b.b + 39373 * (b.c + 1)) 5 := ⟨by decide, by decide, by omega⟩
    have q2 : ∀ x, CMul 39373 x ∨ CMulW 39373 x := fun x => .inl (.inl ⟨by decide, by decide⟩)
    have q3 : ∀ x, CMul x 48271 ∨ CMulW x 48271 := fun x => .inl (.inr ⟨by decide, by decide⟩)
    have q4 : ∀ x y, CMul y (x % 40009 + 7 + (b.c + 1)) ∨ CMulW y (x % 40009 + 7 + (b.c + 1)) := fun x y => .inl (.inr (by
      have := Int.emod_nonneg x (show (40009 : Int) ≠ 0 by decide)
      have := Int.emod_lt_of_pos x (show (0 : Int) < 40009 by decide)
      constructor <;> omega))
    have d1 : ∀ i, CDivW i 1000003 := log_n (by decide) (by decide)
    have d2 : ∀ i, CDivW i 64 := log_n (by decide) (by decide)
    have m1 : (0 : Int) < 2147483647 := by decide
    have m2 : (0 : Int) < 40009 := by decide
    have m3 : (0 : Int) < 2147483629 := by decide
    have m4 : (0 : Int) < 2147483587 := by decide
    generalize hA : (b.b + 39373 * (b.c + 1)) ^ (5 : Int).toNat % 2147483647 = A
    generalize hC : ((A + (b.c + 1)) + b.b / 1000003) * (A % 40009 + 7 + (b.c + 1)) % 2147483629 = C
    obtain ⟨j, ej, hj⟩ := as_nat (Int.emod_nonneg ((C * 48271 + A) % 2147483587 / 64) (Int.ne_of_gt hn)) (Int.emod_lt_of_pos ((C * 48271 + A) % 2147483587 / 64) hn)
    refine ⟨j, ⟨b.a, b.b, b.c + 1⟩, hj, ⟨hb.a, hb.b, hb.b', by show (0 : Int) ≤ b.c + 1; omega, by show b.c + 1 ≤ ((m + 1 : Nat) : Int); omega⟩, ?_⟩
    refine run_mkF (s' := ⟨[.bor 0, .dat (.int n), .un, .dat (.int A), .dat (.int C)], [[.int b.a, .int b.b, .int (b.c + 1)]]⟩) ?_
    unfold bx
    simp only [cb_take, Bw.startS, Bw.startS.go, ↓Bw.e_sq, ↓Bw.e_sq0, ↓Bw.bnd_ap, ↓Bw.e_ret, ↓Bw.e_some, ↓Bw.e_evL0, ↓Bw.e_evL, ↓Bw.e_args0, ↓Bw.e_argsD, ↓Bw.e_argsC, Bw.rdS, Bw.pkS, Bw.cellOf, Bw.e_setS, Bw.e_setO, Bw.e_add, Bw.e_sub, Bw.e_mul, Bw.e_div, Bw.e_mod, Bw.e_pow, Bw.e_and, Bw.e_app, Bw.e_adda, Bw.e_suba, Bw.e_mula, Bw.e_diva, Bw.e_lt, Bw.e_le, Bw.e_gt, Bw.e_ge, Bw.e_eq, Bw.e_ne, Bw.e_eqb, Bw.e_neb, Bw.e_neg, Bw.e_trb, Bw.e_bool, Bw.e_int, Bw.e_ixt, Bw.e_ixl, Bw.at_z, Bw.at_o, Bw.at_t, List.length_cons, List.length_nil, List.cons_append, List.nil_append, List.append_nil, List.replicate_succ, List.replicate_zero, List.getElem?_cons_zero, List.getElem?_cons_succ, List.set_cons_succ, List.set_cons_zero, Nat.reduceSub, Nat.reduceAdd, Option.bind_some, Option.map_some, if_true, if_false, decide_true, decide_false, Bool.false_eq_true, Bool.not_true, Bool.not_false, if_pos, K02.two_le, h, hn, dn, put2, q1, q2, q3, q4, d1, d2, m1, m2, m3, m4, hA, hC, ej]
theorem ev_oneof {m : Nat} {b : Bx} (hb : BxOk m b) (hm : m < 2 ^ 20) {xs : List D} (hl : 0 < xs.length) (hl' : xs.length < 1000) : ∃ (j : Nat) (hj : j < xs.length) (b' : Bx), BxOk (m + 1) b' ∧ f_oneof.run [.list xs] [bx b] = some (.val xs[j] [bx b']) := by
  obtain ⟨j, b', hj, hb', e⟩ := ev_take hb hm (n := (xs.length : Nat)) (by omega) (by omega)
  have hj' : j < xs.length := by omega
  refine ⟨j, hj', b', hb', ?_⟩
  refine run_mkF (s' := ⟨[.bor 0, .dat (.list xs)], [bx b']⟩) ?_
  simp only [cb_oneof, Bw.startS, Bw.startS.go, ↓Bw.e_sq, ↓Bw.e_sq0, ↓Bw.bnd_ap, ↓Bw.e_ret, ↓Bw.e_some, ↓Bw.e_evL0, ↓Bw.e_evL, ↓Bw.e_args0, ↓Bw.e_argsD, ↓Bw.e_argsC, Bw.rdS, Bw.pkS, Bw.cellOf, Bw.e_setS, Bw.e_setO, Bw.e_add, Bw.e_sub, Bw.e_mul, Bw.e_div, Bw.e_mod, Bw.e_pow, Bw.e_and, Bw.e_app, Bw.e_adda, Bw.e_suba, Bw.e_mula, Bw.e_diva, Bw.e_lt, Bw.e_le, Bw.e_gt, Bw.e_ge, Bw.e_eq, Bw.e_ne, Bw.e_eqb, Bw.e_neb, Bw.e_neg, Bw.e_trb, Bw.e_bool, Bw.e_int, Bw.e_ixt, Bw.e_ixl, Bw.at_z, Bw.at_o, Bw.at_t, List.length_cons, List.length_nil, List.cons_append, List.nil_append, List.append_nil, List.replicate_succ, List.replicate_zero, List.getElem?_cons_zero, List.getElem?_cons_succ, List.set_cons_succ, List.set_cons_zero, Nat.reduceSub, Nat.reduceAdd, Option.bind_some, Option.map_some, if_true, if_false, decide_true, decide_false, Bool.false_eq_true, Bool.not_true, Bool.not_false, if_pos, K02.two_le, lenD, call_b0 e, at_nat xs j hj']
theorem size5 : (5 : Nat) ≤ sizeLine := by decide
theorem size7 : (7 : Nat) ≤ sizeLine := by decide
theorem lt20 {n : Nat} (h : n < 2 ^ 19) (k : Nat) (hk : k < 2 ^ 19) : n + k < 2 ^ 20 := by omega
theorem ev_lany {m : Nat} {b : Bx} (hb : BxOk m b) (hm : m < 2 ^ 19) : ∃ (a : Int) (k : Nat) (b' : Bx), a.natAbs < 2 ^ 60 ∧ k ≤ 40 ∧ BxOk (m + 6) b' ∧ f_lany.run [] [bx b] = some (.val (.tuple [.int a, .int (2 ^ k)]) [bx b']) := by
  obtain ⟨j1, b1, h1, ok1, e1⟩ := ev_take hb (by omega) (n := 9) (by decide) (by decide)
  obtain ⟨j2, b2, h2, ok2, e2⟩ := ev_take ok1 (by omega) (n := 1999) (by decide) (by decide)
  obtain ⟨j3, b3, h3, ok3, e3⟩ := ev_take ok2 (by omega) (n := 10 ^ (18 : Int).toNat) (by decide) (by decide)
  obtain ⟨j4, h4, b4, ok4, e4⟩ := ev_oneof ok3 (by omega) (xs := [.int ((j1 : Int) - 4), .int ((j2 : Int) - 999), .int ((j3 : Int) - 5 * 10 ^ (17 : Int).toNat), .int 0, .int 96]) (by simp only [List.length_cons]; omega) (by simp only [List.length_cons, List.length_nil]; omega)
  obtain ⟨j5, b5, h5, ok5, e5⟩ := ev_take ok4 (by omega) (n := 41) (by decide) (by decide)
  obtain ⟨j6, b6, h6, ok6, e6⟩ := ev_take ok5 (by omega) (n := 7) (by decide) (by decide)
  have h3' : (j3 : Int) < 10 ^ 18 := h3
  obtain ⟨a, ea, ha⟩ : ∃ a : Int, [PyData.int ((j1 : Int) - 4), .int ((j2 : Int) - 999), .int ((j3 : Int) - 5 * 10 ^ (17 : Int).toNat), .int 0, .int 96][j4] = .int a ∧ a.natAbs < 2 ^ 60 := by
    have e17 : (10 : Int) ^ (17 : Int).toNat = 100000000000000000 := by decide
    match j4, h4 with
    | 0, _ => exact ⟨_, rfl, by omega⟩
    | 1, _ => exact ⟨_, rfl, by omega⟩
    | 2, _ => exact ⟨_, rfl, by rw [e17]; omega⟩
    | 3, _ => exact ⟨_, rfl, by decide⟩
    | 4, _ => exact ⟨_, rfl, by decide⟩
    | j + 5, h => exact absurd h (by simp only [List.length_cons, List.length_nil]; omega)
  obtain ⟨k, ek, hk⟩ : ∃ k : Nat, atI [PyData.int 0, .int 0, .int 1, .int 2, .int 4, .int 6, .int (j5 : Nat)] (j6 : Int) = some (.int (k : Nat)) ∧ k ≤ 40 := by
    have h6' : j6 < 7 := by omega
    rw [at_nat [PyData.int 0, .int 0, .int 1, .int 2, .int 4, .int 6, .int (j5 : Nat)] j6 h6']
    match j6, h6' with
    | 0, _ => exact ⟨0, rfl, by decide⟩
    | 1, _ => exact ⟨0, rfl, by decide⟩
    | 2, _ => exact ⟨1, rfl, by decide⟩
    | 3, _ => exact ⟨2, rfl, by decide⟩
    | 4, _ => exact ⟨4, rfl, by decide⟩
    | 5, _ => exact ⟨6, rfl, by decide⟩
    | 6, _ => exact ⟨j5, rfl, by omega⟩
    | j + 7, h => exact absurd h (by omega)
  rw [ea] at e4
  refine ⟨a, k, b6, ha, hk, ok6, ?_⟩
  refine run_mkF (s' := ⟨[.bor 0, .dat (.list [.int ((j1 : Int) - 4), .int ((j2 : Int) - 999), .int ((j3 : Int) - 5 * 10 ^ (17 : Int).toNat), .int 0, .int 96]), .dat (.int a)], [bx b6]⟩) ?_
  have p1 : CPow 10 18 := ⟨by decide, by decide, by decide⟩
  have p2 : CPow 10 17 := ⟨by decide, by decide, by decide⟩
  have p3 : ∀ x, CMul 5 x ∨ CMulW 5 x := fun x => .inl (.inl ⟨by decide, by decide⟩)
  have e7 := ev_lpow k (by omega)
  simp only [cb_lany, Bw.startS, Bw.startS.go, ↓Bw.e_sq, ↓Bw.e_sq0, ↓Bw.bnd_ap, ↓Bw.e_ret, ↓Bw.e_some, ↓Bw.e_evL0, ↓Bw.e_evL, ↓Bw.e_args0, ↓Bw.e_argsD, ↓Bw.e_argsC, Bw.rdS, Bw.pkS, Bw.cellOf, Bw.e_setS, Bw.e_setO, Bw.e_add, Bw.e_sub, Bw.e_mul, Bw.e_div, Bw.e_mod, Bw.e_pow, Bw.e_and, Bw.e_app, Bw.e_adda, Bw.e_suba, Bw.e_mula, Bw.e_diva, Bw.e_lt, Bw.e_le, Bw.e_gt, Bw.e_ge, Bw.e_eq, Bw.e_ne, Bw.e_eqb, Bw.e_neb, Bw.e_neg, Bw.e_trb, Bw.e_bool, Bw.e_int, Bw.e_ixt, Bw.e_ixl, Bw.at_z, Bw.at_o, Bw.at_t, List.length_cons, List.length_nil, List.cons_append, List.nil_append, List.append_nil, List.replicate_succ, List.replicate_zero, List.getElem?_cons_zero, List.getElem?_cons_succ, List.set_cons_succ, List.set_cons_zero, Nat.reduceSub, Nat.reduceAdd, Option.bind_some, Option.map_some, if_true, if_false, decide_true, decide_false, Bool.false_eq_true, Bool.not_true, Bool.not_false, if_pos, K02.two_le, call_b0 e1, call_b0 e2, call_b0 e3, call_b0 e4, call_b0 e5, call_b0 e6, p1, p2, p3, size5, size7, ek, call_nil e7]
/-! ### the box at the start -/
theorem size3 : (3 : Nat) ≤ sizeLine := by decide
theorem ev_dip {cs : List Int} {k : Nat} (hk : k ≤ 4) : ∃ b : Bx, BxOk 0 b ∧ f_dip.run [.list (cs.map .int), .int (k : Nat)] [] = some (.val (.list (bx b)) []) := by
  obtain ⟨c, s', ec, hs⟩ : ∃ (c : Int) (s' : Sl), (bnd (bnd (rdS 1) fun x => bnd (bnd (pkS 0) fun c => lift (lenD c)) fun y => lift (cmpD .Lt x y)) fun k => if k then (bnd (pkS 0) fun _ => bnd (rdS 1) fun k => bnd (pkS 0) fun c => lift (ixD c k)) else (Bw.ret (.int 0))) ⟨[.dat (.list (cs.map .int)), .dat (.int (k : Nat)), .un], []⟩ = .ok (.int c) ⟨[.dat (.list (cs.map .int)), .dat (.int (k : Nat)), .un], []⟩ ∧ s' = .un := by
    by_cases hl : k < cs.length
    · refine ⟨cs[k], _, ?_, rfl⟩
      have q : decide ((k : Int) < ((cs.map PyData.int).length : Nat)) = true := by rw [List.length_map]; exact decide_eq_true (by omega)
      simp only [Bw.startS, Bw.startS.go, ↓Bw.e_sq, ↓Bw.e_sq0, ↓Bw.bnd_ap, ↓Bw.e_ret, ↓Bw.e_some, ↓Bw.e_evL0, ↓Bw.e_evL, ↓Bw.e_args0, ↓Bw.e_argsD, ↓Bw.e_argsC, Bw.rdS, Bw.pkS, Bw.cellOf, Bw.e_setS, Bw.e_setO, Bw.e_add, Bw.e_sub, Bw.e_mul, Bw.e_div, Bw.e_mod, Bw.e_pow, Bw.e_and, Bw.e_app, Bw.e_adda, Bw.e_suba, Bw.e_mula, Bw.e_diva, Bw.e_lt, Bw.e_le, Bw.e_gt, Bw.e_ge, Bw.e_eq, Bw.e_ne, Bw.e_eqb, Bw.e_neb, Bw.e_neg, Bw.e_trb, Bw.e_bool, Bw.e_int, Bw.e_ixt, Bw.e_ixl, Bw.at_z, Bw.at_o, Bw.at_t, List.length_cons, List.length_nil, List.cons_append, List.nil_append, List.append_nil, List.replicate_succ, List.replicate_zero, List.getElem?_cons_zero, List.getElem?_cons_succ, List.set_cons_succ, List.set_cons_zero, Nat.reduceSub, Nat.reduceAdd, Option.bind_some, Option.map_some, if_true, if_false, decide_true, decide_false, Bool.false_eq_true, Bool.not_true, Bool.not_false, if_pos, K02.two_le, lenD, q, at_nat (cs.map PyData.int) k (by rw [List.length_map]; exact hl), List.getElem_map]
    · refine ⟨0, _, ?_, rfl⟩
      have q : decide ((k : Int) < ((cs.map PyData.int).length : Nat)) = false := by rw [List.length_map]; exact decide_eq_false (by omega)
      simp only [Bw.startS, Bw.startS.go, ↓Bw.e_sq, ↓Bw.e_sq0, ↓Bw.bnd_ap, ↓Bw.e_ret, ↓Bw.e_some, ↓Bw.e_evL0, ↓Bw.e_evL, ↓Bw.e_args0, ↓Bw.e_argsD, ↓Bw.e_argsC, Bw.rdS, Bw.pkS, Bw.cellOf, Bw.e_setS, Bw.e_setO, Bw.e_add, Bw.e_sub, Bw.e_mul, Bw.e_div, Bw.e_mod, Bw.e_pow, Bw.e_and, Bw.e_app, Bw.e_adda, Bw.e_suba, Bw.e_mula, Bw.e_diva, Bw.e_lt, Bw.e_le, Bw.e_gt, Bw.e_ge, Bw.e_eq, Bw.e_ne, Bw.e_eqb, Bw.e_neb, Bw.e_neg, Bw.e_trb, Bw.e_bool, Bw.e_int, Bw.e_ixt, Bw.e_ixl, Bw.at_z, Bw.at_o, Bw.at_t, List.length_cons, List.length_nil, List.cons_append, List.nil_append, List.append_nil, List.replicate_succ, List.replicate_zero, List.getElem?_cons_zero, List.getElem?_cons_succ, List.set_cons_succ, List.set_cons_zero, Nat.reduceSub, Nat.reduceAdd, Option.bind_some, Option.map_some, if_true, if_false, decide_true, decide_false, Bool.false_eq_true, Bool.not_true, Bool.not_false, if_pos, K02.two_le, lenD, q]
  have m1 : (0 : Int) < 2305843009213693951 := by decide
  have p1 : CPow 10 18 := ⟨by decide, by decide, by decide⟩
  have p2 : ∀ x, CMul 39373 x ∨ CMulW 39373 x := fun x => .inl (.inl ⟨by decide, by decide⟩)
  have r1 := Int.emod_nonneg c (Int.ne_of_gt m1)
  have r2 := Int.emod_lt_of_pos c m1
  generalize hz : (if decide (10 ^ (18 : Int).toNat ≤ absI c) = true then (1 : Int) else 0) = z
  have hz' : 0 ≤ z ∧ z ≤ 1 := by rw [← hz]; split <;> decide
  have p3 : CMul (absI c) z ∨ CMulW (absI c) z := .inl (.inr (by omega))
  have ha : 0 ≤ absI c := by unfold absI; split <;> omega
  refine ⟨⟨absI c * z, c % 2305843009213693951 + 39373 * (k : Nat) + 17, 0⟩, ⟨Int.mul_nonneg ha hz'.1, ?_, ?_, Int.le_refl _, Int.le_refl _⟩, ?_⟩
  · show (0 : Int) ≤ c % 2305843009213693951 + 39373 * (k : Nat) + 17
    omega
  · show c % 2305843009213693951 + 39373 * (k : Nat) + 17 < (2 : Int) ^ 62
    omega
  · refine run_mkF (s' := ⟨[.dat (.list (cs.map .int)), .dat (.int (k : Nat)), .dat (.int c)], []⟩) ?_
    rw [bnd_ap] at ec
    simp only [cb_dip, Bw.startS, Bw.startS.go, ↓Bw.e_sq, ↓Bw.e_sq0, ↓Bw.bnd_ap, ↓Bw.e_ret, ↓Bw.e_some, ↓Bw.e_evL0, ↓Bw.e_evL, ↓Bw.e_args0, ↓Bw.e_argsD, ↓Bw.e_argsC, Bw.rdS, Bw.pkS, Bw.cellOf, Bw.e_setS, Bw.e_setO, Bw.e_add, Bw.e_sub, Bw.e_mul, Bw.e_div, Bw.e_mod, Bw.e_pow, Bw.e_and, Bw.e_app, Bw.e_adda, Bw.e_suba, Bw.e_mula, Bw.e_diva, Bw.e_lt, Bw.e_le, Bw.e_gt, Bw.e_ge, Bw.e_eq, Bw.e_ne, Bw.e_eqb, Bw.e_neb, Bw.e_neg, Bw.e_trb, Bw.e_bool, Bw.e_int, Bw.e_ixt, Bw.e_ixl, Bw.at_z, Bw.at_o, Bw.at_t, List.length_cons, List.length_nil, List.cons_append, List.nil_append, List.append_nil, List.replicate_succ, List.replicate_zero, List.getElem?_cons_zero, List.getElem?_cons_succ, List.set_cons_succ, List.set_cons_zero, Nat.reduceSub, Nat.reduceAdd, Option.bind_some, Option.map_some, if_true, if_false, decide_true, decide_false, Bool.false_eq_true, Bool.not_true, Bool.not_false, if_pos, K02.two_le] at ec ⊢
    simp only [ec, Bw.startS, Bw.startS.go, ↓Bw.e_sq, ↓Bw.e_sq0, ↓Bw.bnd_ap, ↓Bw.e_ret, ↓Bw.e_some, ↓Bw.e_evL0, ↓Bw.e_evL, ↓Bw.e_args0, ↓Bw.e_argsD, ↓Bw.e_argsC, Bw.rdS, Bw.pkS, Bw.cellOf, Bw.e_setS, Bw.e_setO, Bw.e_add, Bw.e_sub, Bw.e_mul, Bw.e_div, Bw.e_mod, Bw.e_pow, Bw.e_and, Bw.e_app, Bw.e_adda, Bw.e_suba, Bw.e_mula, Bw.e_diva, Bw.e_lt, Bw.e_le, Bw.e_gt, Bw.e_ge, Bw.e_eq, Bw.e_ne, Bw.e_eqb, Bw.e_neb, Bw.e_neg, Bw.e_trb, Bw.e_bool, Bw.e_int, Bw.e_ixt, Bw.e_ixl, Bw.at_z, Bw.at_o, Bw.at_t, List.length_cons, List.length_nil, List.cons_append, List.nil_append, List.append_nil, List.replicate_succ, List.replicate_zero, List.getElem?_cons_zero, List.getElem?_cons_succ, List.set_cons_succ, List.set_cons_zero, Nat.reduceSub, Nat.reduceAdd, Option.bind_some, Option.map_some, if_true, if_false, decide_true, decide_false, Bool.false_eq_true, Bool.not_true, Bool.not_false, if_pos, K02.two_le, intOf, hz, m1, p1, p2, p3, size3, bx]
end K02
end

set_option Elab.async false
set_option linter.all false
set_option maxRecDepth 100000
set_option maxHeartbeats 4000000
noncomputable section
namespace K02
open PySem L2 PySem.Spec Bw
/-! ### folded -/
theorem sliceD_int (xs : List Int) (l h : Option Int) : ∃ ys : List Int, sliceD (.list (xs.map .int)) l h = some (.list (ys.map .int)) ∧ ys.length = (cutD (xs.map .int) l h).length := by
  refine ⟨(xs.drop (HT.sIx (xs.map PyData.int).length 0 l)).take (HT.sIx (xs.map PyData.int).length (xs.map PyData.int).length h - HT.sIx (xs.map PyData.int).length 0 l), ?_, ?_⟩
  · show some (PyData.list (cutD (xs.map .int) l h)) = _
    unfold cutD
    rw [List.map_take, List.map_drop]
  · unfold cutD
    simp only [List.length_take, List.length_drop, List.length_map]
theorem map_get {xs : List Int} {j : Nat} (h : j < (xs.map PyData.int).length) : ∃ i, (xs.map PyData.int)[j] = .int i := ⟨_, List.getElem_map ..⟩
theorem map_set {xs : List Int} (j : Nat) (i : Int) : (xs.map PyData.int).set j (.int i) = (xs.set j i).map .int := by rw [List.map_set]
theorem enum_get {ys : List Int} {i : Nat} (h : i < ((List.range (ys.map PyData.int).length).zipWith (fun i x => PyData.tuple [.int (i : Nat), x]) (ys.map PyData.int)).length) : ∃ v, ((List.range (ys.map PyData.int).length).zipWith (fun i x => PyData.tuple [.int (i : Nat), x]) (ys.map PyData.int))[i] = .tuple [.int (i : Nat), .int v] := by
  rw [List.getElem_zipWith, List.getElem_range, List.getElem_map]
  exact ⟨_, rfl⟩
theorem ixN_nat {n j : Nat} (h : j < n) : ixN n (j : Int) = some j := by
  unfold ixN
  rw [if_pos (by omega), if_pos (by omega)]
  rfl
theorem put_own2 (a b d0 d1 : Sl) (xs : List D) {j : Nat} (h : j < xs.length) (d : D) : chL 2 (putAt (.int (j : Nat)) d) ⟨[a, b, .own xs, d0, d1], []⟩ = .ok .none ⟨[a, b, .own (xs.set j d), d0, d1], []⟩ := by
  show (match (Option.bind (some (j : Int)) fun z => (ixN xs.length z).map fun m => (PyData.none, xs.set m d)) with | some (r, es) => Res.ok r (putL 2 ⟨[a, b, .own xs, d0, d1], []⟩ es) | none => Res.bad) = _
  rw [Option.bind_some, ixN_nat h]
  rfl
theorem sIx4 (n d : Nat) : HT.sIx n d (some 4) = min 4 n := by
  unfold HT.sIx
  simp only
  rw [if_neg (by decide)]
  rfl
theorem sIx63 (n d : Nat) : HT.sIx n d (some 63) = min 63 n := by
  unfold HT.sIx
  simp only
  rw [if_neg (by decide)]
  rfl
theorem sIx0 (n d : Nat) : HT.sIx n d none = d := rfl
theorem ev_folded (xs : List Int) : ∃ cs : List Int, cs.length ≤ 4 ∧ f_folded.run [.list (xs.map .int), .int 4] [] = some (.val (.list (cs.map .int)) []) := by
  obtain ⟨c0, e0, l0⟩ := sliceD_int xs none (some 4)
  obtain ⟨ys, e1, l1⟩ := sliceD_int xs (some 4) (some 63)
  have hc : c0.length = min 4 xs.length := by
    rw [l0]
    unfold cutD
    simp only [List.length_take, List.length_drop, List.length_map, sIx4, sIx63, sIx0]
    omega
  have hy : 0 < ys.length → c0.length = 4 := by
    intro h
    rw [l1] at h
    unfold cutD at h
    simp only [List.length_take, List.length_drop, List.length_map, sIx4, sIx63, sIx0] at h
    omega
  obtain ⟨s', e, cs, d0, d1, hl, hs⟩ := for_inv (asg := fun x => asgTup [fun y => setS 3 y, fun y => setS 4 y] x) (body := lb1_folded 400) (fun _ s => ∃ (cs : List Int) (d0 d1 : Sl), cs.length = c0.length ∧ s = ⟨[.dat (.list (xs.map .int)), .dat (.int 4), .own (cs.map .int), d0, d1], []⟩)
    ((List.range (ys.map PyData.int).length).zipWith (fun i x => PyData.tuple [.int (i : Nat), x]) (ys.map PyData.int)) 0 ⟨[.dat (.list (xs.map .int)), .dat (.int 4), .own (c0.map .int), .un, .un], []⟩ ⟨c0, _, _, rfl, rfl⟩ (by
      intro i hi s ⟨cs, d0, d1, hl, hs⟩
      subst hs
      obtain ⟨v, ev⟩ := enum_get hi
      rw [ev]
      have hi' : 0 < ys.length := by
        simp only [List.length_zipWith, List.length_range, List.length_map] at hi
        omega
      have h4 : cs.length = 4 := by rw [hl]; exact hy hi'
      obtain ⟨j, ej, hj⟩ := as_nat (Int.emod_nonneg (i : Int) (show (4 : Int) ≠ 0 by decide)) (Int.emod_lt_of_pos (i : Int) (show (0 : Int) < 4 by decide))
      have hj' : j < (cs.map PyData.int).length := by rw [List.length_map]; omega
      have m4 : (0 : Int) < 4 := by decide
      have hi6 : i < 64 := by
        have := hi
        simp only [List.length_zipWith, List.length_range, List.length_map] at this
        rw [l1] at this
        unfold cutD at this
        simp only [List.length_take, List.length_drop, List.length_map, sIx4, sIx63, sIx0] at this
        omega
      have q : CMul v ((i : Int) + 2) ∨ CMulW v ((i : Int) + 2) := .inl (.inr (by omega))
      refine ⟨⟨[.dat (.list (xs.map .int)), .dat (.int 4), .own ((cs.set j (cs[j]'(by omega) + v * ((i : Int) + 2))).map .int), .dat (.int (i : Nat)), .dat (.int v)], []⟩, ?_, _, _, _, ?_, rfl⟩
      · rw [← map_set]
        simp only [lb1_folded, asgTup, asgL, Bw.startS, Bw.startS.go, ↓Bw.e_sq, ↓Bw.e_sq0, ↓Bw.bnd_ap, ↓Bw.e_ret, ↓Bw.e_some, ↓Bw.e_evL0, ↓Bw.e_evL, ↓Bw.e_args0, ↓Bw.e_argsD, ↓Bw.e_argsC, Bw.rdS, Bw.pkS, Bw.cellOf, Bw.e_setS, Bw.e_setO, Bw.e_add, Bw.e_sub, Bw.e_mul, Bw.e_div, Bw.e_mod, Bw.e_pow, Bw.e_and, Bw.e_app, Bw.e_adda, Bw.e_suba, Bw.e_mula, Bw.e_diva, Bw.e_lt, Bw.e_le, Bw.e_gt, Bw.e_ge, Bw.e_eq, Bw.e_ne, Bw.e_eqb, Bw.e_neb, Bw.e_neg, Bw.e_trb, Bw.e_bool, Bw.e_int, Bw.e_ixt, Bw.e_ixl, Bw.at_z, Bw.at_o, Bw.at_t, List.length_cons, List.length_nil, List.cons_append, List.nil_append, List.append_nil, List.replicate_succ, List.replicate_zero, List.getElem?_cons_zero, List.getElem?_cons_succ, List.set_cons_succ, List.set_cons_zero, Nat.reduceSub, Nat.reduceAdd, Option.bind_some, Option.map_some, if_true, if_false, decide_true, decide_false, Bool.false_eq_true, Bool.not_true, Bool.not_false, if_pos, K02.two_le, m4, ej, at_nat _ j hj', List.getElem_map, q, put_own2 _ _ _ _ _ hj']
      · rw [List.length_set]; exact hl)
  subst hs
  refine ⟨cs, by rw [hl, hc]; omega, ?_⟩
  refine run_mkF (s' := ⟨[.dat (.list (xs.map .int)), .dat (.int 4), .own (cs.map .int), d0, d1], []⟩) ?_
  simp only [cb_folded, Bw.startS, Bw.startS.go, ↓Bw.e_sq, ↓Bw.e_sq0, ↓Bw.bnd_ap, ↓Bw.e_ret, ↓Bw.e_some, ↓Bw.e_evL0, ↓Bw.e_evL, ↓Bw.e_args0, ↓Bw.e_argsD, ↓Bw.e_argsC, Bw.rdS, Bw.pkS, Bw.cellOf, Bw.e_setS, Bw.e_setO, Bw.e_add, Bw.e_sub, Bw.e_mul, Bw.e_div, Bw.e_mod, Bw.e_pow, Bw.e_and, Bw.e_app, Bw.e_adda, Bw.e_suba, Bw.e_mula, Bw.e_diva, Bw.e_lt, Bw.e_le, Bw.e_gt, Bw.e_ge, Bw.e_eq, Bw.e_ne, Bw.e_eqb, Bw.e_neb, Bw.e_neg, Bw.e_trb, Bw.e_bool, Bw.e_int, Bw.e_ixt, Bw.e_ixl, Bw.at_z, Bw.at_o, Bw.at_t, List.length_cons, List.length_nil, List.cons_append, List.nil_append, List.append_nil, List.replicate_succ, List.replicate_zero, List.getElem?_cons_zero, List.getElem?_cons_succ, List.set_cons_succ, List.set_cons_zero, Nat.reduceSub, Nat.reduceAdd, Option.bind_some, Option.map_some, if_true, if_false, decide_true, decide_false, Bool.false_eq_true, Bool.not_true, Bool.not_false, if_pos, K02.two_le, e0, e1, seqD, enumD, e, rtO]
/-! ### a cut is right -/
theorem Pl_pn (n : Nat) (x : Int × Nat) : Pl (n + 2) (pn x) := .tuple _ (fun y hy => by
  rcases List.mem_cons.mp hy with h | h
  · subst h; exact .int _
  · cases List.mem_singleton.mp h; exact .int _) two_le
theorem le_dec (x : Int × Nat) (f : Nat) : decide (((cut x f).2 : Int) ≤ (f : Nat)) = true := decide_eq_true (by have := nrm_le (x.1 * 2 ^ f / 2 ^ x.2) f; unfold cut; omega)
theorem ev_cutr {x : Int × Nat} {f : Nat} (hx : B 200 x) (hf : f ≤ 50) : f_cutr.run [pn x, .int (f : Nat)] [] = some (.val (.bool true) []) := by
  have hx' : B 1999 x := hx.mono (by decide)
  have hc : B 250 (cut x f) := B_cut hx hf
  have hc' : B 1999 (cut x f) := hc.mono (by decide)
  have h1 : B 60 (nrm 1 f) := B_nrm (by decide) (by omega)
  have h1' : B 1999 (nrm 1 f) := h1.mono (by decide)
  have ha : B 1999 (add (cut x f) (nrm 1 f)) := (B_add hc h1).mono (by decide)
  have e1 := call_nil (ev_cutof f hx' (by omega))
  have e2 := call_nil (ev_lpow f (by omega))
  have e3 := call_nil (ev_lbelow hx' hc')
  have e4 := call_nil (ev_lnum 1 f (by omega))
  have e5 := call_nil (ev_ladd hc' h1')
  have e6 := call_nil (ev_lbelow hx' ha)
  have e7 := call_nil (ev_lsize (x := cut x f) (by have := nrm_le (x.1 * 2 ^ f / 2 ^ x.2) f; unfold cut; omega))
  have e8 := call_nil (ev_lfloor f hx' (by omega))
  have e9 := call_nil (ev_same 6 (pn (cut x f)) (Pl_pn 4 _))
  refine run_mkF (s' := ⟨[.dat (pn x), .dat (.int (f : Nat)), .dat (pn (cut x f)), .dat (.tuple [.int 1, .int (2 ^ f)]), .dat (.bool true)], []⟩) ?_
  simp only [cb_cutr, Bw.startS, Bw.startS.go, ↓Bw.e_sq, ↓Bw.e_sq0, ↓Bw.bnd_ap, ↓Bw.e_ret, ↓Bw.e_some, ↓Bw.e_evL0, ↓Bw.e_evL, ↓Bw.e_args0, ↓Bw.e_argsD, ↓Bw.e_argsC, Bw.rdS, Bw.pkS, Bw.cellOf, Bw.e_setS, Bw.e_setO, Bw.e_add, Bw.e_sub, Bw.e_mul, Bw.e_div, Bw.e_mod, Bw.e_pow, Bw.e_and, Bw.e_app, Bw.e_adda, Bw.e_suba, Bw.e_mula, Bw.e_diva, Bw.e_lt, Bw.e_le, Bw.e_gt, Bw.e_ge, Bw.e_eq, Bw.e_ne, Bw.e_eqb, Bw.e_neb, Bw.e_neg, Bw.e_trb, Bw.e_bool, Bw.e_int, Bw.e_ixt, Bw.e_ixl, Bw.at_z, Bw.at_o, Bw.at_t, List.length_cons, List.length_nil, List.cons_append, List.nil_append, List.append_nil, List.replicate_succ, List.replicate_zero, List.getElem?_cons_zero, List.getElem?_cons_succ, List.set_cons_succ, List.set_cons_zero, Nat.reduceSub, Nat.reduceAdd, Option.bind_some, Option.map_some, if_true, if_false, decide_true, decide_false, Bool.false_eq_true, Bool.not_true, Bool.not_false, if_pos, K02.two_le, e1, e2, e3, e4, e5, e6, e7, e8, e9, cut_not_above, cut_near, le_dec]
end K02
end

set_option Elab.async false
set_option linter.all false
set_option maxRecDepth 100000
set_option maxHeartbeats 4000000
noncomputable section
namespace K02
open PySem L2 PySem.Spec Bw
/-! ### a pair is right -/
theorem size4 : (4 : Nat) ≤ sizeLine := by decide
theorem size9 : (9 : Nat) ≤ sizeLine := by decide
theorem ev_lnum1 (a : Int) : f_lnum.run [.int a, .int 1] [] = some (.val (pn (nrm a 0)) []) := ev_lnum a 0 (by decide)
def rowOf (a : Int) (x y z : Int × Nat) : List D := [pn x, pn (nrm a 0), pn z, pn (add x y), pn (sub x y), pn (mul x y), .bool (below x y), .bool (below y x), .int (x.2 : Nat)]
theorem Pl_row (a : Int) (x y z : Int × Nat) : Pl 6 (.list (rowOf a x y z)) := by
  refine .list _ (fun d hd => ?_) size9
  simp only [rowOf, List.mem_cons, List.not_mem_nil, or_false] at hd
  rcases hd with h | h | h | h | h | h | h | h | h <;> subst h <;> first | exact Pl_pn 3 _ | exact .bool _ | exact .int _
/-- the pair's second: its first again, or one of its own -/
theorem ev_pairr {m : Nat} {b : Bx} (hb : BxOk m b) (hm : m < 2 ^ 18) : ∃ b', BxOk (m + 14) b' ∧ f_pairr.run [] [bx b] = some (.val (.bool true) [bx b']) := by
  obtain ⟨a, k, b1, ha, hk, ok1, e1⟩ := ev_lany hb (by omega)
  obtain ⟨c, l, b2, hc, hl, ok2, e2⟩ := ev_lany ok1 (by omega)
  obtain ⟨j, b3, hj, ok3, e3⟩ := ev_take ok2 (by omega) (n := 5) (by decide) (by decide)
  obtain ⟨f, b4, hf, ok4, e4⟩ := ev_take ok3 (by omega) (n := 51) (by decide) (by decide)
  refine ⟨b4, ok4, ?_⟩
  have hx : B 60 (nrm a k) := B_nrm ha (by omega)
  have hz : B 60 (nrm c l) := B_nrm hc (by omega)
  have n1 := call_nil (ev_lnum a k (by omega))
  have n2 := call_nil (ev_lnum c l (by omega))
  have n3 := call_nil (ev_numof a k (by omega))
  have n4 := call_nil (ev_numof c l (by omega))
  generalize hxe : nrm a k = x at hx n1 n3
  generalize hze : nrm c l = z at hz n2 n4
  obtain ⟨y, hy, ey⟩ : ∃ y, B 60 y ∧ (if decide ((j : Int) = 0) = true then x else z) = y := ⟨_, by split <;> assumption, rfl⟩
  have hx' : B 1999 x := hx.mono (by decide)
  have hy' : B 1999 y := hy.mono (by decide)
  have hx2 : x.2 ≤ 60 := hx.2
  have q1 := call_nil (ev_sumof hx' hy')
  have q2 := call_nil (ev_lessof hx' hy')
  have q3 := call_nil (ev_timesof hx' hy')
  have q4 := call_nil (ev_isbelow hx' hy')
  have q5 := call_nil (ev_isbelow hy' hx')
  have q6 := call_nil (ev_figs (x := x) (by omega))
  have r1 := call_nil (ev_ladd hx' hy')
  have r2 := call_nil (ev_lsub hx' hy')
  have r3 := call_nil (ev_lmul hx' hy')
  have r4 := call_nil (ev_lbelow hx' hy')
  have r5 := call_nil (ev_lbelow hy' hx')
  have r6 := call_nil (ev_lsize (x := x) (by omega))
  have r7 := call_nil (ev_numof1 a)
  have r8 := call_nil (ev_lnum1 a)
  have s1 := call_nil (ev_same 6 _ (Pl_row a x y z))
  unfold rowOf at s1
  generalize hL : [pn x, pn (nrm a 0), pn z, pn (add x y), pn (sub x y), pn (mul x y), PyData.bool (below x y), .bool (below y x), .int (x.2 : Nat)] = L at s1
  have hit : it1_pairr 400 ⟨[.bor 0, .dat (.int a), .dat (.int (2 ^ k)), .dat (.int c), .dat (.int (2 ^ l)), .dat (pn x), .dat (pn y), .dat (.list L), .dat (.list L), .un], [bx b3]⟩ = .ok [.int 0, .int 1, .int 8, .int (f : Nat)] ⟨[.bor 0, .dat (.int a), .dat (.int (2 ^ k)), .dat (.int c), .dat (.int (2 ^ l)), .dat (pn x), .dat (pn y), .dat (.list L), .dat (.list L), .un], [bx b4]⟩ := by
    simp only [it1_pairr, Bw.startS, Bw.startS.go, ↓Bw.e_sq, ↓Bw.e_sq0, ↓Bw.bnd_ap, ↓Bw.e_ret, ↓Bw.e_some, ↓Bw.e_evL0, ↓Bw.e_evL, ↓Bw.e_args0, ↓Bw.e_argsD, ↓Bw.e_argsC, Bw.rdS, Bw.pkS, Bw.cellOf, Bw.e_setS, Bw.e_setO, Bw.e_add, Bw.e_sub, Bw.e_mul, Bw.e_div, Bw.e_mod, Bw.e_pow, Bw.e_and, Bw.e_app, Bw.e_adda, Bw.e_suba, Bw.e_mula, Bw.e_diva, Bw.e_lt, Bw.e_le, Bw.e_gt, Bw.e_ge, Bw.e_eq, Bw.e_ne, Bw.e_eqb, Bw.e_neb, Bw.e_neg, Bw.e_trb, Bw.e_bool, Bw.e_int, Bw.e_ixt, Bw.e_ixl, Bw.at_z, Bw.at_o, Bw.at_t, List.length_cons, List.length_nil, List.cons_append, List.nil_append, List.append_nil, List.replicate_succ, List.replicate_zero, List.getElem?_cons_zero, List.getElem?_cons_succ, List.set_cons_succ, List.set_cons_zero, Nat.reduceSub, Nat.reduceAdd, Option.bind_some, Option.map_some, if_true, if_false, decide_true, decide_false, Bool.false_eq_true, Bool.not_true, Bool.not_false, if_pos, K02.two_le, call_b0 e4, size4, seqD]
  have hall : ∀ d ∈ [PyData.int 0, .int 1, .int 8, .int (f : Nat)], ∃ g : Nat, d = .int (g : Nat) ∧ g ≤ 50 := by
    intro d hd
    simp only [List.mem_cons, List.not_mem_nil, or_false] at hd
    rcases hd with h | h | h | h <;> subst h
    · exact ⟨0, rfl, by decide⟩
    · exact ⟨1, rfl, by decide⟩
    · exact ⟨8, rfl, by decide⟩
    · exact ⟨f, rfl, by omega⟩
  obtain ⟨out, s', e, hs, hao⟩ := all_comp (own := [9]) (it := it1_pairr 400) (asg := fun x => setS 9 x) (elt := ce2_pairr 400) (fun _ s => s = ⟨[.bor 0, .dat (.int a), .dat (.int (2 ^ k)), .dat (.int c), .dat (.int (2 ^ l)), .dat (pn x), .dat (pn y), .dat (.list L), .dat (.list L), .un], [bx b4]⟩) hit rfl rfl size4 (by
      intro i hi s hs
      subst hs
      obtain ⟨g, eg, hg⟩ := hall _ (List.getElem_mem hi)
      rw [eg]
      refine ⟨⟨[.bor 0, .dat (.int a), .dat (.int (2 ^ k)), .dat (.int c), .dat (.int (2 ^ l)), .dat (pn x), .dat (pn y), .dat (.list L), .dat (.list L), .dat (.int (g : Nat))], [bx b4]⟩, ?_, rfl⟩
      simp only [ce2_pairr, Bw.startS, Bw.startS.go, ↓Bw.e_sq, ↓Bw.e_sq0, ↓Bw.bnd_ap, ↓Bw.e_ret, ↓Bw.e_some, ↓Bw.e_evL0, ↓Bw.e_evL, ↓Bw.e_args0, ↓Bw.e_argsD, ↓Bw.e_argsC, Bw.rdS, Bw.pkS, Bw.cellOf, Bw.e_setS, Bw.e_setO, Bw.e_add, Bw.e_sub, Bw.e_mul, Bw.e_div, Bw.e_mod, Bw.e_pow, Bw.e_and, Bw.e_app, Bw.e_adda, Bw.e_suba, Bw.e_mula, Bw.e_diva, Bw.e_lt, Bw.e_le, Bw.e_gt, Bw.e_ge, Bw.e_eq, Bw.e_ne, Bw.e_eqb, Bw.e_neb, Bw.e_neg, Bw.e_trb, Bw.e_bool, Bw.e_int, Bw.e_ixt, Bw.e_ixl, Bw.at_z, Bw.at_o, Bw.at_t, List.length_cons, List.length_nil, List.cons_append, List.nil_append, List.append_nil, List.replicate_succ, List.replicate_zero, List.getElem?_cons_zero, List.getElem?_cons_succ, List.set_cons_succ, List.set_cons_zero, Nat.reduceSub, Nat.reduceAdd, Option.bind_some, Option.map_some, if_true, if_false, decide_true, decide_false, Bool.false_eq_true, Bool.not_true, Bool.not_false, if_pos, K02.two_le, call_nil (ev_cutr (hx.mono (by decide)) hg)])
  subst hs
  refine run_mkF (s' := ⟨[.bor 0, .dat (.int a), .dat (.int (2 ^ k)), .dat (.int c), .dat (.int (2 ^ l)), .dat (pn x), .dat (pn y), .dat (.list L), .dat (.list L), .un], [bx b4]⟩) ?_
  have ek : backG [Sl.bor 0, .dat (.int a), .dat (.int (2 ^ k)), .dat (.int c), .dat (.int (2 ^ l)), .dat (pn x), .dat (pn y), .dat (.list L), .dat (.list L), .un] [Sl.bor 0, .dat (.int a), .dat (.int (2 ^ k)), .dat (.int c), .dat (.int (2 ^ l)), .dat (pn x), .dat (pn y), .dat (.list L), .dat (.list L), .un] [9] = [Sl.bor 0, .dat (.int a), .dat (.int (2 ^ k)), .dat (.int c), .dat (.int (2 ^ l)), .dat (pn x), .dat (pn y), .dat (.list L), .dat (.list L), .un] := rfl
  simp only [ek] at e
  by_cases h0 : (j : Int) = 0
  · have h0' : decide ((j : Int) = 0) = true := decide_eq_true h0
    rw [h0', if_pos rfl] at ey
    subst ey
    simp only [cb_pairr, Bw.startS, Bw.startS.go, ↓Bw.e_sq, ↓Bw.e_sq0, ↓Bw.bnd_ap, ↓Bw.e_ret, ↓Bw.e_some, ↓Bw.e_evL0, ↓Bw.e_evL, ↓Bw.e_args0, ↓Bw.e_argsD, ↓Bw.e_argsC, Bw.rdS, Bw.pkS, Bw.cellOf, Bw.e_setS, Bw.e_setO, Bw.e_add, Bw.e_sub, Bw.e_mul, Bw.e_div, Bw.e_mod, Bw.e_pow, Bw.e_and, Bw.e_app, Bw.e_adda, Bw.e_suba, Bw.e_mula, Bw.e_diva, Bw.e_lt, Bw.e_le, Bw.e_gt, Bw.e_ge, Bw.e_eq, Bw.e_ne, Bw.e_eqb, Bw.e_neb, Bw.e_neg, Bw.e_trb, Bw.e_bool, Bw.e_int, Bw.e_ixt, Bw.e_ixl, Bw.at_z, Bw.at_o, Bw.at_t, List.length_cons, List.length_nil, List.cons_append, List.nil_append, List.append_nil, List.replicate_succ, List.replicate_zero, List.getElem?_cons_zero, List.getElem?_cons_succ, List.set_cons_succ, List.set_cons_zero, Nat.reduceSub, Nat.reduceAdd, Option.bind_some, Option.map_some, if_true, if_false, decide_true, decide_false, Bool.false_eq_true, Bool.not_true, Bool.not_false, if_pos, K02.two_le, asgTup, asgL, call_b0 e1, call_b0 e2, call_b0 e3, n1, n2, n3, n4, h0', q1, q2, q3, q4, q5, q6, r1, r2, r3, r4, r5, r6, r7, r8, size4, size5, size9, hL, s1, e, hao]
  · have h0' : decide ((j : Int) = 0) = false := decide_eq_false h0
    rw [h0', if_neg (by decide)] at ey
    subst ey
    simp only [cb_pairr, Bw.startS, Bw.startS.go, ↓Bw.e_sq, ↓Bw.e_sq0, ↓Bw.bnd_ap, ↓Bw.e_ret, ↓Bw.e_some, ↓Bw.e_evL0, ↓Bw.e_evL, ↓Bw.e_args0, ↓Bw.e_argsD, ↓Bw.e_argsC, Bw.rdS, Bw.pkS, Bw.cellOf, Bw.e_setS, Bw.e_setO, Bw.e_add, Bw.e_sub, Bw.e_mul, Bw.e_div, Bw.e_mod, Bw.e_pow, Bw.e_and, Bw.e_app, Bw.e_adda, Bw.e_suba, Bw.e_mula, Bw.e_diva, Bw.e_lt, Bw.e_le, Bw.e_gt, Bw.e_ge, Bw.e_eq, Bw.e_ne, Bw.e_eqb, Bw.e_neb, Bw.e_neg, Bw.e_trb, Bw.e_bool, Bw.e_int, Bw.e_ixt, Bw.e_ixl, Bw.at_z, Bw.at_o, Bw.at_t, List.length_cons, List.length_nil, List.cons_append, List.nil_append, List.append_nil, List.replicate_succ, List.replicate_zero, List.getElem?_cons_zero, List.getElem?_cons_succ, List.set_cons_succ, List.set_cons_zero, Nat.reduceSub, Nat.reduceAdd, Option.bind_some, Option.map_some, if_true, if_false, decide_true, decide_false, Bool.false_eq_true, Bool.not_true, Bool.not_false, if_pos, K02.two_le, asgTup, asgL, call_b0 e1, call_b0 e2, call_b0 e3, n1, n2, n3, n4, h0', q1, q2, q3, q4, q5, q6, r1, r2, r3, r4, r5, r6, r7, r8, size4, size5, size9, hL, s1, e, hao]
end K02
end

set_option Elab.async false
set_option linter.all false
set_option maxRecDepth 100000
set_option maxHeartbeats 4000000
noncomputable section
namespace K02
open PySem L2 PySem.Spec Bw
/-! ### lists are right -/
theorem app1 (a0 a2 a3 a4 a5 a6 : Sl) (xs : List D) (d : D) (m : S → Res D) (b b' : List (List D)) (hm : m ⟨[a0, .own xs, a2, a3, a4, a5, a6], b⟩ = .ok d ⟨[a0, .own xs, a2, a3, a4, a5, a6], b'⟩) (hl : xs.length < sizeLine) : appM 1 m (.list xs) ⟨[a0, .own xs, a2, a3, a4, a5, a6], b⟩ = .ok .nx ⟨[a0, .own (xs ++ [d]), a2, a3, a4, a5, a6], b'⟩ := by
  show bnd m _ _ = _
  rw [bnd_of hm]
  show bnd (chL 1 (appD d)) _ _ = _
  have e : chL 1 (appD d) ⟨[a0, .own xs, a2, a3, a4, a5, a6], b'⟩ = .ok .none ⟨[a0, .own (xs ++ [d]), a2, a3, a4, a5, a6], b'⟩ := by
    show (match appD d xs with | some (r, es) => Res.ok r (putL 1 ⟨[a0, .own xs, a2, a3, a4, a5, a6], b'⟩ es) | none => Res.bad) = _
    unfold appD
    rw [if_pos hl]
    rfl
  rw [bnd_of e]
  rfl
theorem pool_step {m : Nat} {b : Bx} (hb : BxOk m b) (hm : m < 2 ^ 19) (xs : List (Int × Nat)) (hl : xs.length < 100) (a2 a3 a4 a5 a6 : Sl) : ∃ (y : Int × Nat) (b' : Bx), B 60 y ∧ BxOk (m + 2) b' ∧ lb1_listsr 400 ⟨[.bor 0, .own (xs.map pn), a2, a3, a4, a5, a6], [bx b]⟩ = .ok .nx ⟨[.bor 0, .own ((xs ++ [y]).map pn), a2, a3, a4, a5, a6], [bx b']⟩ := by
  obtain ⟨i, b1, hi, ok1, e1⟩ := ev_take hb (by omega) (n := 21) (by decide) (by decide)
  obtain ⟨j, b2, hj, ok2, e2⟩ := ev_take ok1 (by omega) (n := 3) (by decide) (by decide)
  obtain ⟨k, ek, hk⟩ : ∃ k : Nat, atI [PyData.int 1, .int 2, .int 8] (j : Int) = some (.int (2 ^ k)) ∧ k ≤ 3 := by
    have h : j < 3 := by omega
    rw [at_nat [PyData.int 1, .int 2, .int 8] j h]
    match j, h with
    | 0, _ => exact ⟨0, rfl, by decide⟩
    | 1, _ => exact ⟨1, rfl, by decide⟩
    | 2, _ => exact ⟨3, rfl, by decide⟩
    | j + 3, h => exact absurd h (by omega)
  refine ⟨nrm ((i : Int) - 10) k, b2, B_nrm (by omega) (by omega), ok2, ?_⟩
  have e3 := call_nil (ev_lnum ((i : Int) - 10) k (by omega))
  have sz : (xs.map pn).length < sizeLine := by rw [List.length_map]; exact Nat.lt_of_lt_of_le hl (by decide)
  have em : (bnd (argsM [.d (bnd (bnd (argsM [.c 0, .d (Bw.ret (.int 21))]) (callFn f_take)) fun x => bnd (Bw.ret (.int 10)) fun y => lift (binD .Sub x y)), .d (bnd (bnd (bnd (evL [Bw.ret (.int 1), Bw.ret (.int 2), Bw.ret (.int 8)]) fun ds => lift (if ds.length ≤ sizeLine then some ds else none)) fun ds => Bw.ret (.list ds)) fun c => bnd (bnd (argsM [.c 0, .d (Bw.ret (.int 3))]) (callFn f_take)) fun k => lift (ixD c k))]) (callFn f_lnum)) ⟨[.bor 0, .own (xs.map pn), a2, a3, a4, a5, a6], [bx b]⟩ = .ok (pn (nrm ((i : Int) - 10) k)) ⟨[.bor 0, .own (xs.map pn), a2, a3, a4, a5, a6], [bx b2]⟩ := by
    simp only [Bw.startS, Bw.startS.go, ↓Bw.e_sq, ↓Bw.e_sq0, ↓Bw.bnd_ap, ↓Bw.e_ret, ↓Bw.e_some, ↓Bw.e_evL0, ↓Bw.e_evL, ↓Bw.e_args0, ↓Bw.e_argsD, ↓Bw.e_argsC, Bw.rdS, Bw.pkS, Bw.cellOf, Bw.e_setS, Bw.e_setO, Bw.e_add, Bw.e_sub, Bw.e_mul, Bw.e_div, Bw.e_mod, Bw.e_pow, Bw.e_and, Bw.e_app, Bw.e_adda, Bw.e_suba, Bw.e_mula, Bw.e_diva, Bw.e_lt, Bw.e_le, Bw.e_gt, Bw.e_ge, Bw.e_eq, Bw.e_ne, Bw.e_eqb, Bw.e_neb, Bw.e_neg, Bw.e_trb, Bw.e_bool, Bw.e_int, Bw.e_ixt, Bw.e_ixl, Bw.at_z, Bw.at_o, Bw.at_t, List.length_cons, List.length_nil, List.cons_append, List.nil_append, List.append_nil, List.replicate_succ, List.replicate_zero, List.getElem?_cons_zero, List.getElem?_cons_succ, List.set_cons_succ, List.set_cons_zero, Nat.reduceSub, Nat.reduceAdd, Option.bind_some, Option.map_some, if_true, if_false, decide_true, decide_false, Bool.false_eq_true, Bool.not_true, Bool.not_false, if_pos, K02.two_le, call_b0 e1, call_b0 e2, size3, ek, e3]
  rw [List.map_append, List.map_cons, List.map_nil]
  have q := app1 (.bor 0) a2 a3 a4 a5 a6 (xs.map pn) _ _ _ _ em sz
  simp only [lb1_listsr, ↓Bw.e_sq, ↓Bw.e_sq0, ↓Bw.bnd_ap, Bw.pkS, List.getElem?_cons_zero, List.getElem?_cons_succ, q]
theorem for_low (a0 a1 a2 a5 : Sl) (c : List (List D)) : ∀ (xs : List (Int × Nat)) (m n : Int × Nat) (d : Sl), B 1999 m → B 1999 n → (∀ x ∈ xs, B 1999 x) → ∃ d', forL (fun x => setS 6 x) (lb2_listsr 400) (xs.map pn) ⟨[a0, a1, a2, .dat (pn m), .dat (pn n), a5, d], c⟩ = .ok .nx ⟨[a0, a1, a2, .dat (pn (lo m xs)), .dat (pn (hi n xs)), a5, d'], c⟩
  | [], m, n, d, _, _, _ => ⟨d, rfl⟩
  | y :: r, m, n, d, hm, hn, h => by
    have hy := h y (List.mem_cons_self ..)
    have e : bnd (setS 6 (pn y)) (fun _ => lb2_listsr 400) ⟨[a0, a1, a2, .dat (pn m), .dat (pn n), a5, d], c⟩ = .ok .nx ⟨[a0, a1, a2, .dat (pn (if below y m then y else m)), .dat (pn (if below n y then y else n)), a5, .dat (pn y)], c⟩ := by
      cases hb : below y m <;> cases hb2 : below n y <;> simp only [lb2_listsr, Bw.startS, Bw.startS.go, ↓Bw.e_sq, ↓Bw.e_sq0, ↓Bw.bnd_ap, ↓Bw.e_ret, ↓Bw.e_some, ↓Bw.e_evL0, ↓Bw.e_evL, ↓Bw.e_args0, ↓Bw.e_argsD, ↓Bw.e_argsC, Bw.rdS, Bw.pkS, Bw.cellOf, Bw.e_setS, Bw.e_setO, Bw.e_add, Bw.e_sub, Bw.e_mul, Bw.e_div, Bw.e_mod, Bw.e_pow, Bw.e_and, Bw.e_app, Bw.e_adda, Bw.e_suba, Bw.e_mula, Bw.e_diva, Bw.e_lt, Bw.e_le, Bw.e_gt, Bw.e_ge, Bw.e_eq, Bw.e_ne, Bw.e_eqb, Bw.e_neb, Bw.e_neg, Bw.e_trb, Bw.e_bool, Bw.e_int, Bw.e_ixt, Bw.e_ixl, Bw.at_z, Bw.at_o, Bw.at_t, List.length_cons, List.length_nil, List.cons_append, List.nil_append, List.append_nil, List.replicate_succ, List.replicate_zero, List.getElem?_cons_zero, List.getElem?_cons_succ, List.set_cons_succ, List.set_cons_zero, Nat.reduceSub, Nat.reduceAdd, Option.bind_some, Option.map_some, if_true, if_false, decide_true, decide_false, Bool.false_eq_true, Bool.not_true, Bool.not_false, if_pos, K02.two_le, call_nil (ev_lbelow hy hm), call_nil (ev_lbelow hn hy), hb, hb2]
    obtain ⟨d', e'⟩ := for_low a0 a1 a2 a5 c r (if below y m then y else m) (if below n y then y else n) (.dat (pn y)) (by split <;> assumption) (by split <;> assumption) fun x hx => h x (List.mem_cons_of_mem _ hx)
    refine ⟨d', ?_⟩
    rw [List.map_cons, for_step e]
    exact e'
theorem lay_pns : ∀ xs : List (Int × Nat), PyData.canLayAll0 (xs.map pn) = true
  | [] => rfl
  | x :: r => by
    show (PyData.canLay0 (pn x) && PyData.canLayAll0 (r.map pn)) = true
    rw [lay_pns r]
    rfl
theorem depth_pns : ∀ xs : List (Int × Nat), PyData.depthAll (xs.map pn) ≤ 3
  | [] => by decide
  | x :: r => by
    show max (PyData.depth (pn x)) (PyData.depthAll (r.map pn)) ≤ 3
    have h1 : PyData.depth (pn x) ≤ 3 := by show max 0 (max 0 0) + 1 ≤ 3; decide
    have := depth_pns r
    omega
theorem eq_pns (xs : List (Int × Nat)) : cmpD .Eq (.list (xs.map pn)) (.list (xs.map pn)) = some true := by
  have hc : PyData.canLay0 (.list (xs.map pn)) = true := lay_pns xs
  have hd : PyData.depth (.list (xs.map pn)) ≤ 64 := by
    have := depth_pns xs
    show PyData.depthAll (xs.map pn) + 1 ≤ 64
    omega
  have hs : SeqAt.shaped (.list (xs.map pn)) = true := by
    show (PyData.canLay0 _ && decide _) = true
    rw [hc, decide_eq_true hd]; rfl
  show (if (SeqAt.shaped (.list (xs.map pn)) && SeqAt.shaped (.list (xs.map pn))) = true then some (PyData.eqv (.list (xs.map pn)) (.list (xs.map pn))) else none) = _
  rw [hs, Bool.and_self, if_pos rfl, SeqAt.eqv_refl _ hc]
theorem ev_listsr {m : Nat} {b : Bx} (hb : BxOk m b) (hm : m < 2 ^ 18) : ∃ b', BxOk (m + 13) b' ∧ f_listsr.run [] [bx b] = some (.val (.bool true) [bx b']) := by
  obtain ⟨t, b1, ht, ok1, e1⟩ := ev_take hb (by omega) (n := 6) (by decide) (by decide)
  obtain ⟨s', e, xs, b2, d, hl, hB, ok2, hs⟩ := for_inv (asg := fun x => setS 2 x) (body := lb1_listsr 400) (fun i s => ∃ (xs : List (Int × Nat)) (b2 : Bx) (d : Sl), xs.length = i ∧ (∀ x ∈ xs, B 60 x) ∧ BxOk (m + 1 + 2 * i) b2 ∧ s = ⟨[.bor 0, .own (xs.map pn), d, .un, .un, .un, .un], [bx b2]⟩)
    ((List.range (1 + t)).map r0) 0 ⟨[.bor 0, .own [], .un, .un, .un, .un, .un], [bx b1]⟩ ⟨[], b1, _, rfl, (fun _ h => by cases h), ok1, rfl⟩ (by
      intro i hi s ⟨xs, b2, d, hl, hB, ok2, hs⟩
      subst hs
      rw [List.length_map, List.length_range] at hi
      obtain ⟨y, b3, hy, ok3, e3⟩ := pool_step ok2 (by omega) xs (by omega) (.dat (((List.range (1 + t)).map r0)[i]'(by rw [List.length_map, List.length_range]; exact hi))) .un .un .un .un
      refine ⟨⟨[.bor 0, .own ((xs ++ [y]).map pn), .dat (((List.range (1 + t)).map r0)[i]'(by rw [List.length_map, List.length_range]; exact hi)), .un, .un, .un, .un], [bx b3]⟩, (bnd_of (e_setS 2 _ _ _)).trans e3, xs ++ [y], b3, _, ?_, ?_, ok3.mono (by omega), rfl⟩
      · rw [List.length_append, hl]; rfl
      · intro x hx
        rcases List.mem_append.mp hx with h | h
        · exact hB x h
        · cases List.mem_singleton.mp h; exact hy)
  subst hs
  rw [List.length_map, List.length_range, Nat.zero_add] at hl ok2
  obtain ⟨y, ys, rfl⟩ : ∃ y ys, xs = y :: ys := by
    cases xs with
    | nil => simp only [List.length_nil] at hl; omega
    | cons y ys => exact ⟨y, ys, rfl⟩
  have hy : B 1999 y := (hB y (List.mem_cons_self ..)).mono (by decide)
  have hys : ∀ x ∈ ys, B 1999 x := fun x hx => (hB x (List.mem_cons_of_mem _ hx)).mono (by decide)
  have hall : ∀ x ∈ y :: ys, B 1999 x := fun x hx => (hB x hx).mono (by decide)
  obtain ⟨d', e2⟩ := for_low (.bor 0) (.dat (.list ((y :: ys).map pn))) d (.dat (.list ((y :: ys).map pn))) [bx b2] (y :: ys) y y .un hy hy hall
  rw [lo_self, hi_self] at e2
  have e3 := call_nil (ev_least hy hys)
  have e4 := call_nil (ev_most hy hys)
  have e5 := call_nil (ev_same 6 (.list [pn (lo y ys), pn (hi y ys)]) (.list _ (fun x hx => by
    rcases List.mem_cons.mp hx with h | h
    · subst h; exact Pl_pn 3 _
    · cases List.mem_singleton.mp h; exact Pl_pn 3 _) two_le))
  have e6 := eq_pns (y :: ys)
  have e7 : rngD (.int (1 + (t : Int))) = some ((List.range (1 + t)).map r0) := by
    have := rng_nat (1 + t) (by omega)
    rw [Int.natCast_add] at this
    exact this
  have e8 : atI ((y :: ys).map pn) 0 = some (pn y) := at_z _ _
  have z0 : (0 : Nat) ≤ sizeLine := Nat.zero_le _
  refine ⟨b2, ok2.mono (by omega), ?_⟩
  refine run_mkF (s' := ⟨[.bor 0, .dat (.list ((y :: ys).map pn)), d, .dat (pn (lo y ys)), .dat (pn (hi y ys)), .dat (.list ((y :: ys).map pn)), d'], [bx b2]⟩) ?_
  generalize (y :: ys).map pn = L at e e2 e3 e4 e6 e8 ⊢
  simp only [cb_listsr, Bw.startS, Bw.startS.go, ↓Bw.e_sq, ↓Bw.e_sq0, ↓Bw.bnd_ap, ↓Bw.e_ret, ↓Bw.e_some, ↓Bw.e_evL0, ↓Bw.e_evL, ↓Bw.e_args0, ↓Bw.e_argsD, ↓Bw.e_argsC, Bw.rdS, Bw.pkS, Bw.cellOf, Bw.e_setS, Bw.e_setO, Bw.e_add, Bw.e_sub, Bw.e_mul, Bw.e_div, Bw.e_mod, Bw.e_pow, Bw.e_and, Bw.e_app, Bw.e_adda, Bw.e_suba, Bw.e_mula, Bw.e_diva, Bw.e_lt, Bw.e_le, Bw.e_gt, Bw.e_ge, Bw.e_eq, Bw.e_ne, Bw.e_eqb, Bw.e_neb, Bw.e_neg, Bw.e_trb, Bw.e_bool, Bw.e_int, Bw.e_ixt, Bw.e_ixl, Bw.at_z, Bw.at_o, Bw.at_t, List.length_cons, List.length_nil, List.cons_append, List.nil_append, List.append_nil, List.replicate_succ, List.replicate_zero, List.getElem?_cons_zero, List.getElem?_cons_succ, List.set_cons_succ, List.set_cons_zero, Nat.reduceSub, Nat.reduceAdd, Option.bind_some, Option.map_some, if_true, if_false, decide_true, decide_false, Bool.false_eq_true, Bool.not_true, Bool.not_false, if_pos, K02.two_le, call_b0 e1, z0, e7, e, e8, seqD, nmM, e2, e3, e4, e5, e6]
/-! ### the law -/
theorem call_o3 {fn : Fn} {ds : List D} {a b c e : Sl} {x es : List D} {y : List (List D)} {d : D} (h : fn.run ds [x] = some (.val d [es])) : callFn fn (ds, [.own 3]) ⟨[a, b, c, .own x, e], y⟩ = .ok d ⟨[a, b, c, .own es, e], y⟩ := call_own (s := ⟨[a, b, c, .own x, e], y⟩) rfl h
theorem ev_law (xs : List Int) : f_law.run [.list (xs.map .int)] [] = some (.val (.bool true) []) := by
  obtain ⟨cs, hl, e1⟩ := ev_folded xs
  have e7 : rngD (.int (1 + ((cs.map PyData.int).length : Nat))) = some ((List.range (1 + (cs.map PyData.int).length)).map r0) := by
    have := rng_nat (1 + (cs.map PyData.int).length) (by rw [List.length_map]; omega)
    rw [Int.natCast_add] at this
    exact this
  obtain ⟨s', e, sl, a1, d, d2, hs, h1⟩ := for_inv (asg := fun x => setS 2 x) (body := lb3_law 400) (fun i s => ∃ a1 d d2 d3 : Sl, s = ⟨[.dat (.list (xs.map .int)), a1, d, d2, .un], []⟩ ∧ ((a1 = .own (cs.map .int) ∧ d3 = .un) ∨ (a1 = .dat (.list (cs.map .int)) ∧ d3 = .un)))
    ((List.range (1 + (cs.map PyData.int).length)).map r0) 0 ⟨[.dat (.list (xs.map .int)), .own (cs.map .int), .un, .un, .un], []⟩ ⟨_, _, _, .un, rfl, .inl ⟨rfl, rfl⟩⟩ (by
      intro i hi s ⟨a1, d, d2, d3, hs, ha⟩
      subst hs
      rw [List.length_map, List.length_range, List.length_map] at hi
      have er : ((List.range (1 + (cs.map PyData.int).length)).map r0)[i]'(by rw [List.length_map, List.length_range, List.length_map]; exact hi) = .int (i : Nat) := by
        rw [List.getElem_map, List.getElem_range]
        unfold r0
        rw [Int.zero_add]
      rw [er]
      obtain ⟨b, hb, e2⟩ := ev_dip (cs := cs) (k := i) (by omega)
      have hit : it1_law 400 ⟨[.dat (.list (xs.map .int)), .dat (.list (cs.map .int)), .dat (.int (i : Nat)), .own (bx b), .un], []⟩ = .ok ((List.range 12).map r0) ⟨[.dat (.list (xs.map .int)), .dat (.list (cs.map .int)), .dat (.int (i : Nat)), .own (bx b), .un], []⟩ := by
        have : rngD (.int 12) = some ((List.range 12).map r0) := rng_nat 12 (by decide)
        simp only [it1_law, Bw.startS, Bw.startS.go, ↓Bw.e_sq, ↓Bw.e_sq0, ↓Bw.bnd_ap, ↓Bw.e_ret, ↓Bw.e_some, ↓Bw.e_evL0, ↓Bw.e_evL, ↓Bw.e_args0, ↓Bw.e_argsD, ↓Bw.e_argsC, Bw.rdS, Bw.pkS, Bw.cellOf, Bw.e_setS, Bw.e_setO, Bw.e_add, Bw.e_sub, Bw.e_mul, Bw.e_div, Bw.e_mod, Bw.e_pow, Bw.e_and, Bw.e_app, Bw.e_adda, Bw.e_suba, Bw.e_mula, Bw.e_diva, Bw.e_lt, Bw.e_le, Bw.e_gt, Bw.e_ge, Bw.e_eq, Bw.e_ne, Bw.e_eqb, Bw.e_neb, Bw.e_neg, Bw.e_trb, Bw.e_bool, Bw.e_int, Bw.e_ixt, Bw.e_ixl, Bw.at_z, Bw.at_o, Bw.at_t, List.length_cons, List.length_nil, List.cons_append, List.nil_append, List.append_nil, List.replicate_succ, List.replicate_zero, List.getElem?_cons_zero, List.getElem?_cons_succ, List.set_cons_succ, List.set_cons_zero, Nat.reduceSub, Nat.reduceAdd, Option.bind_some, Option.map_some, if_true, if_false, decide_true, decide_false, Bool.false_eq_true, Bool.not_true, Bool.not_false, if_pos, K02.two_le, this]
      obtain ⟨out, s', e, hs, hao⟩ := all_comp (own := [4]) (it := it1_law 400) (asg := fun x => setS 4 x) (elt := ce2_law 400) (fun n s => ∃ b, BxOk (27 * n) b ∧ s = ⟨[.dat (.list (xs.map .int)), .dat (.list (cs.map .int)), .dat (.int (i : Nat)), .own (bx b), .un], []⟩) hit rfl ⟨b, hb, rfl⟩ (by decide) (by
        intro n hn s ⟨b, hb, hs⟩
        subst hs
        have hn' : n < 12 := by rw [List.length_map, List.length_range] at hn; exact hn
        obtain ⟨b1, hb1, e1⟩ := ev_pairr hb (by omega)
        obtain ⟨b2, hb2, e2⟩ := ev_listsr hb1 (by omega)
        refine ⟨⟨[.dat (.list (xs.map .int)), .dat (.list (cs.map .int)), .dat (.int (i : Nat)), .own (bx b2), .dat (((List.range 12).map r0)[n])], []⟩, ?_, b2, hb2.mono (by omega), rfl⟩
        simp only [ce2_law, Bw.startS, Bw.startS.go, ↓Bw.e_sq, ↓Bw.e_sq0, ↓Bw.bnd_ap, ↓Bw.e_ret, ↓Bw.e_some, ↓Bw.e_evL0, ↓Bw.e_evL, ↓Bw.e_args0, ↓Bw.e_argsD, ↓Bw.e_argsC, Bw.rdS, Bw.pkS, Bw.cellOf, Bw.e_setS, Bw.e_setO, Bw.e_add, Bw.e_sub, Bw.e_mul, Bw.e_div, Bw.e_mod, Bw.e_pow, Bw.e_and, Bw.e_app, Bw.e_adda, Bw.e_suba, Bw.e_mula, Bw.e_diva, Bw.e_lt, Bw.e_le, Bw.e_gt, Bw.e_ge, Bw.e_eq, Bw.e_ne, Bw.e_eqb, Bw.e_neb, Bw.e_neg, Bw.e_trb, Bw.e_bool, Bw.e_int, Bw.e_ixt, Bw.e_ixl, Bw.at_z, Bw.at_o, Bw.at_t, List.length_cons, List.length_nil, List.cons_append, List.nil_append, List.append_nil, List.replicate_succ, List.replicate_zero, List.getElem?_cons_zero, List.getElem?_cons_succ, List.set_cons_succ, List.set_cons_zero, Nat.reduceSub, Nat.reduceAdd, Option.bind_some, Option.map_some, if_true, if_false, decide_true, decide_false, Bool.false_eq_true, Bool.not_true, Bool.not_false, if_pos, K02.two_le, call_o3 e1, call_o3 e2]
        rfl)
      obtain ⟨b', hb', hs⟩ := hs
      subst hs
      have ek : backG [Sl.dat (.list (xs.map .int)), .dat (.list (cs.map .int)), .dat (.int (i : Nat)), .own (bx b), .un] [Sl.dat (.list (xs.map .int)), .dat (.list (cs.map .int)), .dat (.int (i : Nat)), .own (bx b'), .un] [4] = [Sl.dat (.list (xs.map .int)), .dat (.list (cs.map .int)), .dat (.int (i : Nat)), .own (bx b'), .un] := rfl
      simp only [ek] at e
      refine ⟨⟨[.dat (.list (xs.map .int)), .dat (.list (cs.map .int)), .dat (.int (i : Nat)), .own (bx b'), .un], []⟩, ?_, _, _, _, .un, rfl, .inr ⟨rfl, rfl⟩⟩
      rcases ha with ⟨rfl, _⟩ | ⟨rfl, _⟩ <;> simp only [lb3_law, Bw.startS, Bw.startS.go, ↓Bw.e_sq, ↓Bw.e_sq0, ↓Bw.bnd_ap, ↓Bw.e_ret, ↓Bw.e_some, ↓Bw.e_evL0, ↓Bw.e_evL, ↓Bw.e_args0, ↓Bw.e_argsD, ↓Bw.e_argsC, Bw.rdS, Bw.pkS, Bw.cellOf, Bw.e_setS, Bw.e_setO, Bw.e_add, Bw.e_sub, Bw.e_mul, Bw.e_div, Bw.e_mod, Bw.e_pow, Bw.e_and, Bw.e_app, Bw.e_adda, Bw.e_suba, Bw.e_mula, Bw.e_diva, Bw.e_lt, Bw.e_le, Bw.e_gt, Bw.e_ge, Bw.e_eq, Bw.e_ne, Bw.e_eqb, Bw.e_neb, Bw.e_neg, Bw.e_trb, Bw.e_bool, Bw.e_int, Bw.e_ixt, Bw.e_ixl, Bw.at_z, Bw.at_o, Bw.at_t, List.length_cons, List.length_nil, List.cons_append, List.nil_append, List.append_nil, List.replicate_succ, List.replicate_zero, List.getElem?_cons_zero, List.getElem?_cons_succ, List.set_cons_succ, List.set_cons_zero, Nat.reduceSub, Nat.reduceAdd, Option.bind_some, Option.map_some, if_true, if_false, decide_true, decide_false, Bool.false_eq_true, Bool.not_true, Bool.not_false, if_pos, K02.two_le, call_nil e2, listD, e, hao])
  subst hs
  refine run_mkF (s' := ⟨[.dat (.list (xs.map .int)), sl, a1, d, .un], []⟩) ?_
  simp only [cb_law, Bw.startS, Bw.startS.go, ↓Bw.e_sq, ↓Bw.e_sq0, ↓Bw.bnd_ap, ↓Bw.e_ret, ↓Bw.e_some, ↓Bw.e_evL0, ↓Bw.e_evL, ↓Bw.e_args0, ↓Bw.e_argsD, ↓Bw.e_argsC, Bw.rdS, Bw.pkS, Bw.cellOf, Bw.e_setS, Bw.e_setO, Bw.e_add, Bw.e_sub, Bw.e_mul, Bw.e_div, Bw.e_mod, Bw.e_pow, Bw.e_and, Bw.e_app, Bw.e_adda, Bw.e_suba, Bw.e_mula, Bw.e_diva, Bw.e_lt, Bw.e_le, Bw.e_gt, Bw.e_ge, Bw.e_eq, Bw.e_ne, Bw.e_eqb, Bw.e_neb, Bw.e_neg, Bw.e_trb, Bw.e_bool, Bw.e_int, Bw.e_ixt, Bw.e_ixl, Bw.at_z, Bw.at_o, Bw.at_t, List.length_cons, List.length_nil, List.cons_append, List.nil_append, List.append_nil, List.replicate_succ, List.replicate_zero, List.getElem?_cons_zero, List.getElem?_cons_succ, List.set_cons_succ, List.set_cons_zero, Nat.reduceSub, Nat.reduceAdd, Option.bind_some, Option.map_some, if_true, if_false, decide_true, decide_false, Bool.false_eq_true, Bool.not_true, Bool.not_false, if_pos, K02.two_le, call_nil e1, listD, lenD, e7, e]
end K02
end

set_option Elab.async false
set_option linter.all false
set_option maxRecDepth 100000
set_option maxHeartbeats 4000000
noncomputable section
namespace K02
open PySem L2 PySem.Spec Bw
theorem allB1 {mg : Str → Option Value} {x : Str} {r : List Str} (h : mg x = none) (t : AllB mg r) : AllB mg (x :: r) := ⟨h, t⟩
theorem allAt1 {P : Program} {w : World} {K : PySem.W.Frag} {mg : Str → Option Value} {base : Heap} {k : Nat} {x : Str} {n : Nat} {ks : List Str} {fn : Fn} {r : List (Str × Nat × List Str × Fn)} (h : FnAt P w K mg base k x n ks fn) (t : AllAt P w K mg base k r) : AllAt P w K mg base k ((x, n, ks, fn) :: r) := ⟨h, t⟩
section
variable {P : Program} {w : World} {K : PySem.W.Frag} {mg : Str → Option Value} {base h : Heap} (X : K.In h) (G : h.Ns mainGlobals mg)
include X G
theorem ok_halv (H : Has K "halvings_of" (topS 1) [])   : Ok P w K mg base 1 "halvings_of" 1 f_halv :=
  ok_of (k := 0) (sig := [false]) (fr := false) (cb := cb_halv) (wf := 400) X G H sc_halv (bl := bl_halv) (gt := gt_halv) (trivial) trivial (show AllAt _ _ _ _ _ _ tb_halv from trivial) rfl (by decide) bd_halv (fun _ _ _ _ _ _ us hl => match us, hl with | [_], _ => rfl)
theorem ok_pow (H : Has K "power_of" (topS 2) []) (z_range : mg "range" = none)  : Ok P w K mg base 1 "power_of" 1 f_pow :=
  ok_of (k := 0) (sig := [false]) (fr := false) (cb := cb_pow) (wf := 400) X G H sc_pow (bl := bl_pow) (gt := gt_pow) (allB1 z_range (trivial)) trivial (show AllAt _ _ _ _ _ _ tb_pow from trivial) rfl (by decide) bd_pow (fun _ _ _ _ _ _ us hl => match us, hl with | [_], _ => rfl)
theorem ok_numof (H : Has K "num_of" (topS 3) [.int 1]) (z_min : mg "min" = none)  : Ok P w K mg base 1 "num_of" 2 f_numof ∧ FnAt P w K mg base 1 "num_of" 1 [] f_numof1 ∧ FnAt P w K mg base 1 "num_of" 0 ["number", "parts"] f_numof :=
  ok_two (k := 0) (tb := tb_numof) (cb := cb_numof) (wf := 400) X G H sc_numof (bl := bl_numof) (gt := gt_numof) (allB1 z_min (trivial)) trivial (show AllAt _ _ _ _ _ _ tb_numof from trivial) (by decide) bd_numof (fun _ _ _ _ _ _ _ us its hl hi => match us, its, hl, hi with | [_, _], [_], _, _ => ⟨_, rfl, rfl⟩) (fun _ _ _ _ _ _ _ us its hl hi => match us, its, hl, hi with | [_], [_], _, _ => ⟨_, rfl, rfl⟩) (fun _ _ _ _ _ _ _ us its hl hi => match us, its, hl, hi with | [_, _], [_], _, _ => ⟨_, rfl, rfl⟩)
theorem ok_sumof (H : Has K "sum_of" (topS 4) [])  (q_numof : Ok P w K mg base 1 "num_of" 2 f_numof ∧ FnAt P w K mg base 1 "num_of" 1 [] f_numof1 ∧ FnAt P w K mg base 1 "num_of" 0 ["number", "parts"] f_numof) : Ok P w K mg base 2 "sum_of" 2 f_sumof :=
  ok_of (k := 1) (sig := [false, false]) (fr := false) (cb := cb_sumof) (wf := 400) X G H sc_sumof (bl := bl_sumof) (gt := gt_sumof) (trivial) trivial (show AllAt _ _ _ _ _ _ tb_sumof from allAt1 (q_numof.1.at (by decide)) (trivial)) rfl (by decide) bd_sumof (fun _ _ _ _ _ _ us hl => match us, hl with | [_, _], _ => rfl)
theorem ok_lessof (H : Has K "less_of" (topS 5) [])  (q_numof : Ok P w K mg base 1 "num_of" 2 f_numof ∧ FnAt P w K mg base 1 "num_of" 1 [] f_numof1 ∧ FnAt P w K mg base 1 "num_of" 0 ["number", "parts"] f_numof) : Ok P w K mg base 2 "less_of" 2 f_lessof :=
  ok_of (k := 1) (sig := [false, false]) (fr := false) (cb := cb_lessof) (wf := 400) X G H sc_lessof (bl := bl_lessof) (gt := gt_lessof) (trivial) trivial (show AllAt _ _ _ _ _ _ tb_lessof from allAt1 (q_numof.1.at (by decide)) (trivial)) rfl (by decide) bd_lessof (fun _ _ _ _ _ _ us hl => match us, hl with | [_, _], _ => rfl)
theorem ok_timesof (H : Has K "times_of" (topS 6) [])  (q_numof : Ok P w K mg base 1 "num_of" 2 f_numof ∧ FnAt P w K mg base 1 "num_of" 1 [] f_numof1 ∧ FnAt P w K mg base 1 "num_of" 0 ["number", "parts"] f_numof) : Ok P w K mg base 2 "times_of" 2 f_timesof :=
  ok_of (k := 1) (sig := [false, false]) (fr := false) (cb := cb_timesof) (wf := 400) X G H sc_timesof (bl := bl_timesof) (gt := gt_timesof) (trivial) trivial (show AllAt _ _ _ _ _ _ tb_timesof from allAt1 (q_numof.1.at (by decide)) (trivial)) rfl (by decide) bd_timesof (fun _ _ _ _ _ _ us hl => match us, hl with | [_, _], _ => rfl)
theorem ok_isbelow (H : Has K "is_below" (topS 7) [])   : Ok P w K mg base 1 "is_below" 2 f_isbelow :=
  ok_of (k := 0) (sig := [false, false]) (fr := false) (cb := cb_isbelow) (wf := 400) X G H sc_isbelow (bl := bl_isbelow) (gt := gt_isbelow) (trivial) trivial (show AllAt _ _ _ _ _ _ tb_isbelow from trivial) rfl (by decide) bd_isbelow (fun _ _ _ _ _ _ us hl => match us, hl with | [_, _], _ => rfl)
theorem ok_leastnum (H : Has K "least_num" (topS 8) [])  (o_isbelow : Ok P w K mg base 1 "is_below" 2 f_isbelow) : Ok P w K mg base 2 "least_num" 1 f_leastnum :=
  ok_of (k := 1) (sig := [false]) (fr := false) (cb := cb_leastnum) (wf := 400) X G H sc_leastnum (bl := bl_leastnum) (gt := gt_leastnum) (trivial) trivial (show AllAt _ _ _ _ _ _ tb_leastnum from allAt1 (o_isbelow.at (by decide)) (trivial)) rfl (by decide) bd_leastnum (fun _ _ _ _ _ _ us hl => match us, hl with | [_], _ => rfl)
theorem ok_mostnum (H : Has K "most_num" (topS 9) [])  (o_isbelow : Ok P w K mg base 1 "is_below" 2 f_isbelow) : Ok P w K mg base 2 "most_num" 1 f_mostnum :=
  ok_of (k := 1) (sig := [false]) (fr := false) (cb := cb_mostnum) (wf := 400) X G H sc_mostnum (bl := bl_mostnum) (gt := gt_mostnum) (trivial) trivial (show AllAt _ _ _ _ _ _ tb_mostnum from allAt1 (o_isbelow.at (by decide)) (trivial)) rfl (by decide) bd_mostnum (fun _ _ _ _ _ _ us hl => match us, hl with | [_], _ => rfl)
theorem ok_figs (H : Has K "figures_of" (topS 10) [])  (o_halv : Ok P w K mg base 1 "halvings_of" 1 f_halv) : Ok P w K mg base 2 "figures_of" 1 f_figs :=
  ok_of (k := 1) (sig := [false]) (fr := false) (cb := cb_figs) (wf := 400) X G H sc_figs (bl := bl_figs) (gt := gt_figs) (trivial) trivial (show AllAt _ _ _ _ _ _ tb_figs from allAt1 (o_halv.at (by decide)) (trivial)) rfl (by decide) bd_figs (fun _ _ _ _ _ _ us hl => match us, hl with | [_], _ => rfl)
theorem ok_cutof (H : Has K "cut_of" (topS 11) [])  (o_pow : Ok P w K mg base 1 "power_of" 1 f_pow) (q_numof : Ok P w K mg base 1 "num_of" 2 f_numof ∧ FnAt P w K mg base 1 "num_of" 1 [] f_numof1 ∧ FnAt P w K mg base 1 "num_of" 0 ["number", "parts"] f_numof) : Ok P w K mg base 2 "cut_of" 2 f_cutof :=
  ok_of (k := 1) (sig := [false, false]) (fr := false) (cb := cb_cutof) (wf := 400) X G H sc_cutof (bl := bl_cutof) (gt := gt_cutof) (trivial) trivial (show AllAt _ _ _ _ _ _ tb_cutof from allAt1 (o_pow.at (by decide)) (allAt1 (q_numof.1.at (by decide)) (trivial))) rfl (by decide) bd_cutof (fun _ _ _ _ _ _ us hl => match us, hl with | [_, _], _ => rfl)
theorem ok_dip (H : Has K "_law_dip" (topS 13) []) (z_len : mg "len" = none) (z_abs : mg "abs" = none) (z_int : mg "int" = none)  : Ok P w K mg base 1 "_law_dip" 2 f_dip :=
  ok_of (k := 0) (sig := [false, false]) (fr := true) (cb := cb_dip) (wf := 400) X G H sc_dip (bl := bl_dip) (gt := gt_dip) (allB1 z_len (allB1 z_abs (allB1 z_int (trivial)))) trivial (show AllAt _ _ _ _ _ _ tb_dip from trivial) rfl (by decide) bd_dip (fun _ _ _ _ _ _ us hl => match us, hl with | [_, _], _ => rfl)
theorem ok_take (H : Has K "_law_take" (topS 14) [])   : Ok P w K mg base 1 "_law_take" 2 f_take :=
  ok_of (k := 0) (sig := [true, false]) (fr := false) (cb := cb_take) (wf := 400) X G H sc_take (bl := bl_take) (gt := gt_take) (trivial) trivial (show AllAt _ _ _ _ _ _ tb_take from trivial) rfl (by decide) bd_take (fun _ _ _ _ _ _ us hl => match us, hl with | [_, _], _ => rfl)
theorem ok_folded (H : Has K "_law_folded" (topS 15) []) (z_list : mg "list" = none) (z_enumerate : mg "enumerate" = none)  : Ok P w K mg base 1 "_law_folded" 2 f_folded :=
  ok_of (k := 0) (sig := [false, false]) (fr := true) (cb := cb_folded) (wf := 400) X G H sc_folded (bl := bl_folded) (gt := gt_folded) (allB1 z_list (allB1 z_enumerate (trivial))) trivial (show AllAt _ _ _ _ _ _ tb_folded from trivial) rfl (by decide) bd_folded (fun _ _ _ _ _ _ us hl => match us, hl with | [_, _], _ => rfl)
theorem ok_oneof (H : Has K "_law_one_of" (topS 16) []) (z_len : mg "len" = none) (o_take : Ok P w K mg base 1 "_law_take" 2 f_take) : Ok P w K mg base 2 "_law_one_of" 2 f_oneof :=
  ok_of (k := 1) (sig := [true, false]) (fr := false) (cb := cb_oneof) (wf := 400) X G H sc_oneof (bl := bl_oneof) (gt := gt_oneof) (allB1 z_len (trivial)) trivial (show AllAt _ _ _ _ _ _ tb_oneof from allAt1 (o_take.at (by decide)) (trivial)) rfl (by decide) bd_oneof (fun _ _ _ _ _ _ us hl => match us, hl with | [_, _], _ => rfl)
theorem ok_same (H : Has K "_law_same" (topS 17) []) (z_isinstance : mg "isinstance" = none) (z_dict : mg "dict" = none) (z_sorted : mg "sorted" = none) (z_all : mg "all" = none) (z_list : mg "list" = none) (z_tuple : mg "tuple" = none) (z_len : mg "len" = none) (z_zip : mg "zip" = none) (z_bool : mg "bool" = none) (z_str : mg "str" = none) (z_int : mg "int" = none)  : ∀ n : Nat, Ok P w K mg base n "_law_same" 2 (f_same n)
  | 0 => ok_none (ps := P_same) X G H rfl (fun _ _ _ _ _ _ us hl => match us, hl with | [_, _], _ => rfl)
  | n + 1 => by
    have ih := ok_same H z_isinstance z_dict z_sorted z_all z_list z_tuple z_len z_zip z_bool z_str z_int n
    exact ok_of (k := n) (sig := [false, false]) (fr := false) (cb := cb_same (f_same n)) (wf := 400) X G H sc_same (bl := bl_same) (gt := gt_same) (allB1 z_isinstance (allB1 z_dict (allB1 z_sorted (allB1 z_all (allB1 z_list (allB1 z_tuple (allB1 z_len (allB1 z_zip (allB1 z_bool (allB1 z_str (allB1 z_int (trivial)))))))))))) trivial (show AllAt _ _ _ _ _ _ (tb_same (f_same n)) from allAt1 (ih.at (Nat.le_refl _)) (trivial)) rfl (by decide) (bd_same (f_same n) (by cases n <;> rfl) (by cases n <;> rfl)) (fun _ _ _ _ _ _ us hl => match us, hl with | [_, _], _ => rfl)
theorem ok_lnum (H : Has K "_law_num" (topS 18) []) (z_min : mg "min" = none)  : Ok P w K mg base 1 "_law_num" 2 f_lnum :=
  ok_of (k := 0) (sig := [false, false]) (fr := false) (cb := cb_lnum) (wf := 400) X G H sc_lnum (bl := bl_lnum) (gt := gt_lnum) (allB1 z_min (trivial)) trivial (show AllAt _ _ _ _ _ _ tb_lnum from trivial) rfl (by decide) bd_lnum (fun _ _ _ _ _ _ us hl => match us, hl with | [_, _], _ => rfl)
theorem ok_ladd (H : Has K "_law_add" (topS 19) [])  (o_lnum : Ok P w K mg base 1 "_law_num" 2 f_lnum) : Ok P w K mg base 2 "_law_add" 2 f_ladd :=
  ok_of (k := 1) (sig := [false, false]) (fr := false) (cb := cb_ladd) (wf := 400) X G H sc_ladd (bl := bl_ladd) (gt := gt_ladd) (trivial) trivial (show AllAt _ _ _ _ _ _ tb_ladd from allAt1 (o_lnum.at (by decide)) (trivial)) rfl (by decide) bd_ladd (fun _ _ _ _ _ _ us hl => match us, hl with | [_, _], _ => rfl)
theorem ok_lsub (H : Has K "_law_sub" (topS 20) [])  (o_ladd : Ok P w K mg base 2 "_law_add" 2 f_ladd) : Ok P w K mg base 3 "_law_sub" 2 f_lsub :=
  ok_of (k := 2) (sig := [false, false]) (fr := false) (cb := cb_lsub) (wf := 400) X G H sc_lsub (bl := bl_lsub) (gt := gt_lsub) (trivial) trivial (show AllAt _ _ _ _ _ _ tb_lsub from allAt1 (o_ladd.at (by decide)) (trivial)) rfl (by decide) bd_lsub (fun _ _ _ _ _ _ us hl => match us, hl with | [_, _], _ => rfl)
theorem ok_lmul (H : Has K "_law_mul" (topS 21) [])  (o_lnum : Ok P w K mg base 1 "_law_num" 2 f_lnum) : Ok P w K mg base 2 "_law_mul" 2 f_lmul :=
  ok_of (k := 1) (sig := [false, false]) (fr := false) (cb := cb_lmul) (wf := 400) X G H sc_lmul (bl := bl_lmul) (gt := gt_lmul) (trivial) trivial (show AllAt _ _ _ _ _ _ tb_lmul from allAt1 (o_lnum.at (by decide)) (trivial)) rfl (by decide) bd_lmul (fun _ _ _ _ _ _ us hl => match us, hl with | [_, _], _ => rfl)
theorem ok_lbelow (H : Has K "_law_below" (topS 22) [])   : Ok P w K mg base 1 "_law_below" 2 f_lbelow :=
  ok_of (k := 0) (sig := [false, false]) (fr := false) (cb := cb_lbelow) (wf := 400) X G H sc_lbelow (bl := bl_lbelow) (gt := gt_lbelow) (trivial) trivial (show AllAt _ _ _ _ _ _ tb_lbelow from trivial) rfl (by decide) bd_lbelow (fun _ _ _ _ _ _ us hl => match us, hl with | [_, _], _ => rfl)
theorem ok_lfloor (H : Has K "_law_floor" (topS 23) []) (z_range : mg "range" = none) (o_lnum : Ok P w K mg base 1 "_law_num" 2 f_lnum) : Ok P w K mg base 2 "_law_floor" 2 f_lfloor :=
  ok_of (k := 1) (sig := [false, false]) (fr := false) (cb := cb_lfloor) (wf := 400) X G H sc_lfloor (bl := bl_lfloor) (gt := gt_lfloor) (allB1 z_range (trivial)) trivial (show AllAt _ _ _ _ _ _ tb_lfloor from allAt1 (o_lnum.at (by decide)) (trivial)) rfl (by decide) bd_lfloor (fun _ _ _ _ _ _ us hl => match us, hl with | [_, _], _ => rfl)
theorem ok_lpow (H : Has K "_law_power" (topS 24) []) (z_range : mg "range" = none)  : Ok P w K mg base 1 "_law_power" 1 f_lpow :=
  ok_of (k := 0) (sig := [false]) (fr := false) (cb := cb_lpow) (wf := 400) X G H sc_lpow (bl := bl_lpow) (gt := gt_lpow) (allB1 z_range (trivial)) trivial (show AllAt _ _ _ _ _ _ tb_lpow from trivial) rfl (by decide) bd_lpow (fun _ _ _ _ _ _ us hl => match us, hl with | [_], _ => rfl)
theorem ok_lany (H : Has K "_law_any" (topS 25) [])  (o_take : Ok P w K mg base 1 "_law_take" 2 f_take) (o_oneof : Ok P w K mg base 2 "_law_one_of" 2 f_oneof) (o_lpow : Ok P w K mg base 1 "_law_power" 1 f_lpow) : Ok P w K mg base 3 "_law_any" 1 f_lany :=
  ok_of (k := 2) (sig := [true]) (fr := false) (cb := cb_lany) (wf := 400) X G H sc_lany (bl := bl_lany) (gt := gt_lany) (trivial) trivial (show AllAt _ _ _ _ _ _ tb_lany from allAt1 (o_take.at (by decide)) (allAt1 (o_oneof.at (by decide)) (allAt1 (o_lpow.at (by decide)) (trivial)))) rfl (by decide) bd_lany (fun _ _ _ _ _ _ us hl => match us, hl with | [_], _ => rfl)
theorem ok_lsize (H : Has K "_law_size" (topS 26) []) (z_range : mg "range" = none)  : Ok P w K mg base 1 "_law_size" 1 f_lsize :=
  ok_of (k := 0) (sig := [false]) (fr := false) (cb := cb_lsize) (wf := 400) X G H sc_lsize (bl := bl_lsize) (gt := gt_lsize) (allB1 z_range (trivial)) trivial (show AllAt _ _ _ _ _ _ tb_lsize from trivial) rfl (by decide) bd_lsize (fun _ _ _ _ _ _ us hl => match us, hl with | [_], _ => rfl)
theorem ok_cutr (H : Has K "_law_cut_right" (topS 27) [])  (o_cutof : Ok P w K mg base 2 "cut_of" 2 f_cutof) (o_lpow : Ok P w K mg base 1 "_law_power" 1 f_lpow) (o_lbelow : Ok P w K mg base 1 "_law_below" 2 f_lbelow) (o_ladd : Ok P w K mg base 2 "_law_add" 2 f_ladd) (o_lnum : Ok P w K mg base 1 "_law_num" 2 f_lnum) (o_lsize : Ok P w K mg base 1 "_law_size" 1 f_lsize) (o_same : Ok P w K mg base 6 "_law_same" 2 (f_same 6)) (o_lfloor : Ok P w K mg base 2 "_law_floor" 2 f_lfloor) : Ok P w K mg base 7 "_law_cut_right" 2 f_cutr :=
  ok_of (k := 6) (sig := [false, false]) (fr := false) (cb := cb_cutr) (wf := 400) X G H sc_cutr (bl := bl_cutr) (gt := gt_cutr) (trivial) trivial (show AllAt _ _ _ _ _ _ tb_cutr from allAt1 (o_cutof.at (by decide)) (allAt1 (o_lpow.at (by decide)) (allAt1 (o_lbelow.at (by decide)) (allAt1 (o_ladd.at (by decide)) (allAt1 (o_lnum.at (by decide)) (allAt1 (o_lsize.at (by decide)) (allAt1 (o_same.at (by decide)) (allAt1 (o_lfloor.at (by decide)) (trivial))))))))) rfl (by decide) bd_cutr (fun _ _ _ _ _ _ us hl => match us, hl with | [_, _], _ => rfl)
theorem ok_pairr (H : Has K "_law_pair_right" (topS 28) []) (z_all : mg "all" = none) (o_lany : Ok P w K mg base 3 "_law_any" 1 f_lany) (o_lnum : Ok P w K mg base 1 "_law_num" 2 f_lnum) (o_take : Ok P w K mg base 1 "_law_take" 2 f_take) (q_numof : Ok P w K mg base 1 "num_of" 2 f_numof ∧ FnAt P w K mg base 1 "num_of" 1 [] f_numof1 ∧ FnAt P w K mg base 1 "num_of" 0 ["number", "parts"] f_numof) (o_sumof : Ok P w K mg base 2 "sum_of" 2 f_sumof) (o_lessof : Ok P w K mg base 2 "less_of" 2 f_lessof) (o_ladd : Ok P w K mg base 2 "_law_add" 2 f_ladd) (o_lsub : Ok P w K mg base 3 "_law_sub" 2 f_lsub) (o_timesof : Ok P w K mg base 2 "times_of" 2 f_timesof) (o_isbelow : Ok P w K mg base 1 "is_below" 2 f_isbelow) (o_figs : Ok P w K mg base 2 "figures_of" 1 f_figs) (o_lmul : Ok P w K mg base 2 "_law_mul" 2 f_lmul) (o_lbelow : Ok P w K mg base 1 "_law_below" 2 f_lbelow) (o_lsize : Ok P w K mg base 1 "_law_size" 1 f_lsize) (o_same : Ok P w K mg base 6 "_law_same" 2 (f_same 6)) (o_cutr : Ok P w K mg base 7 "_law_cut_right" 2 f_cutr) : Ok P w K mg base 8 "_law_pair_right" 1 f_pairr :=
  ok_of (k := 7) (sig := [true]) (fr := false) (cb := cb_pairr) (wf := 400) X G H sc_pairr (bl := bl_pairr) (gt := gt_pairr) (allB1 z_all (trivial)) trivial (show AllAt _ _ _ _ _ _ tb_pairr from allAt1 (o_lany.at (by decide)) (allAt1 (o_lnum.at (by decide)) (allAt1 (o_take.at (by decide)) (allAt1 (q_numof.1.at (by decide)) (allAt1 (at_mono q_numof.2.1 (by decide)) (allAt1 (at_mono q_numof.2.2 (by decide)) (allAt1 (o_sumof.at (by decide)) (allAt1 (o_lessof.at (by decide)) (allAt1 (o_ladd.at (by decide)) (allAt1 (o_lsub.at (by decide)) (allAt1 (o_timesof.at (by decide)) (allAt1 (o_isbelow.at (by decide)) (allAt1 (o_figs.at (by decide)) (allAt1 (o_lmul.at (by decide)) (allAt1 (o_lbelow.at (by decide)) (allAt1 (o_lsize.at (by decide)) (allAt1 (o_same.at (by decide)) (allAt1 (o_cutr.at (by decide)) (trivial))))))))))))))))))) rfl (by decide) bd_pairr (fun _ _ _ _ _ _ us hl => match us, hl with | [_], _ => rfl)
theorem ok_listsr (H : Has K "_law_lists_right" (topS 29) []) (z_range : mg "range" = none) (z_list : mg "list" = none) (o_take : Ok P w K mg base 1 "_law_take" 2 f_take) (o_lnum : Ok P w K mg base 1 "_law_num" 2 f_lnum) (o_lbelow : Ok P w K mg base 1 "_law_below" 2 f_lbelow) (o_same : Ok P w K mg base 6 "_law_same" 2 (f_same 6)) (o_leastnum : Ok P w K mg base 2 "least_num" 1 f_leastnum) (o_mostnum : Ok P w K mg base 2 "most_num" 1 f_mostnum) : Ok P w K mg base 7 "_law_lists_right" 1 f_listsr :=
  ok_of (k := 6) (sig := [true]) (fr := false) (cb := cb_listsr) (wf := 400) X G H sc_listsr (bl := bl_listsr) (gt := gt_listsr) (allB1 z_range (allB1 z_list (trivial))) trivial (show AllAt _ _ _ _ _ _ tb_listsr from allAt1 (o_take.at (by decide)) (allAt1 (o_lnum.at (by decide)) (allAt1 (o_lbelow.at (by decide)) (allAt1 (o_same.at (by decide)) (allAt1 (o_leastnum.at (by decide)) (allAt1 (o_mostnum.at (by decide)) (trivial))))))) rfl (by decide) bd_listsr (fun _ _ _ _ _ _ us hl => match us, hl with | [_], _ => rfl)
end
theorem all_ok {P : Program} {w : World} {K : PySem.W.Frag} {mg : Str → Option Value} {h : Heap} {fa : Addr} (X : K.In h) (G : h.Ns mainGlobals mg) (hfa : mg "law" = some (.ref fa)) (h_halv : Has K "halvings_of" (topS 1) []) (h_pow : Has K "power_of" (topS 2) []) (h_numof : Has K "num_of" (topS 3) [.int 1]) (h_sumof : Has K "sum_of" (topS 4) []) (h_lessof : Has K "less_of" (topS 5) []) (h_timesof : Has K "times_of" (topS 6) []) (h_isbelow : Has K "is_below" (topS 7) []) (h_leastnum : Has K "least_num" (topS 8) []) (h_mostnum : Has K "most_num" (topS 9) []) (h_figs : Has K "figures_of" (topS 10) []) (h_cutof : Has K "cut_of" (topS 11) []) (h_dip : Has K "_law_dip" (topS 13) []) (h_take : Has K "_law_take" (topS 14) []) (h_folded : Has K "_law_folded" (topS 15) []) (h_oneof : Has K "_law_one_of" (topS 16) []) (h_same : Has K "_law_same" (topS 17) []) (h_lnum : Has K "_law_num" (topS 18) []) (h_ladd : Has K "_law_add" (topS 19) []) (h_lsub : Has K "_law_sub" (topS 20) []) (h_lmul : Has K "_law_mul" (topS 21) []) (h_lbelow : Has K "_law_below" (topS 22) []) (h_lfloor : Has K "_law_floor" (topS 23) []) (h_lpow : Has K "_law_power" (topS 24) []) (h_lany : Has K "_law_any" (topS 25) []) (h_lsize : Has K "_law_size" (topS 26) []) (h_cutr : Has K "_law_cut_right" (topS 27) []) (h_pairr : Has K "_law_pair_right" (topS 28) []) (h_listsr : Has K "_law_lists_right" (topS 29) []) (h_law : Has K "law" (topS 30) []) (y_range : PySem.W.nsIn K mainGlobals "range" = some none) (y_min : PySem.W.nsIn K mainGlobals "min" = some none) (y_len : PySem.W.nsIn K mainGlobals "len" = some none) (y_abs : PySem.W.nsIn K mainGlobals "abs" = some none) (y_int : PySem.W.nsIn K mainGlobals "int" = some none) (y_list : PySem.W.nsIn K mainGlobals "list" = some none) (y_enumerate : PySem.W.nsIn K mainGlobals "enumerate" = some none) (y_isinstance : PySem.W.nsIn K mainGlobals "isinstance" = some none) (y_dict : PySem.W.nsIn K mainGlobals "dict" = some none) (y_sorted : PySem.W.nsIn K mainGlobals "sorted" = some none) (y_all : PySem.W.nsIn K mainGlobals "all" = some none) (y_tuple : PySem.W.nsIn K mainGlobals "tuple" = some none) (y_zip : PySem.W.nsIn K mainGlobals "zip" = some none) (y_bool : PySem.W.nsIn K mainGlobals "bool" = some none) (y_str : PySem.W.nsIn K mainGlobals "str" = some none) :
    ∃ fd : FuncData, (∀ (s : Shared) (v : Value), BindsTo s fd ⟨[v], []⟩ [("_law_script", v)]) ∧ ∀ base : Heap, K.In base → base.Ns mainGlobals mg → FnOk P w K mg base CX0 9 fa fd ["_law_script"] (spF K f_law) := by
  have z_range := PySem.W.mg_none_of X G y_range
  have z_min := PySem.W.mg_none_of X G y_min
  have z_len := PySem.W.mg_none_of X G y_len
  have z_abs := PySem.W.mg_none_of X G y_abs
  have z_int := PySem.W.mg_none_of X G y_int
  have z_list := PySem.W.mg_none_of X G y_list
  have z_enumerate := PySem.W.mg_none_of X G y_enumerate
  have z_isinstance := PySem.W.mg_none_of X G y_isinstance
  have z_dict := PySem.W.mg_none_of X G y_dict
  have z_sorted := PySem.W.mg_none_of X G y_sorted
  have z_all := PySem.W.mg_none_of X G y_all
  have z_tuple := PySem.W.mg_none_of X G y_tuple
  have z_zip := PySem.W.mg_none_of X G y_zip
  have z_bool := PySem.W.mg_none_of X G y_bool
  have z_str := PySem.W.mg_none_of X G y_str
  refine law_of (k := 8) (tb := tb_law) (cb := cb_law) (wf := 400) X G hfa h_law sc_law (bl := bl_law) (gt := gt_law) (allB1 z_range (allB1 z_len (allB1 z_all (trivial)))) trivial (by decide) bd_law (fun _ _ _ _ _ _ us hl => match us, hl with | [_], _ => rfl) fun base _ _ => ?_
  have o_halv := ok_halv (P := P) (w := w) (base := base) X G h_halv  
  have o_pow := ok_pow (P := P) (w := w) (base := base) X G h_pow z_range 
  have q_numof := ok_numof (P := P) (w := w) (base := base) X G h_numof z_min 
  have o_sumof := ok_sumof (P := P) (w := w) (base := base) X G h_sumof  q_numof
  have o_lessof := ok_lessof (P := P) (w := w) (base := base) X G h_lessof  q_numof
  have o_timesof := ok_timesof (P := P) (w := w) (base := base) X G h_timesof  q_numof
  have o_isbelow := ok_isbelow (P := P) (w := w) (base := base) X G h_isbelow  
  have o_leastnum := ok_leastnum (P := P) (w := w) (base := base) X G h_leastnum  o_isbelow
  have o_mostnum := ok_mostnum (P := P) (w := w) (base := base) X G h_mostnum  o_isbelow
  have o_figs := ok_figs (P := P) (w := w) (base := base) X G h_figs  o_halv
  have o_cutof := ok_cutof (P := P) (w := w) (base := base) X G h_cutof  o_pow q_numof
  have o_dip := ok_dip (P := P) (w := w) (base := base) X G h_dip z_len z_abs z_int 
  have o_take := ok_take (P := P) (w := w) (base := base) X G h_take  
  have o_folded := ok_folded (P := P) (w := w) (base := base) X G h_folded z_list z_enumerate 
  have o_oneof := ok_oneof (P := P) (w := w) (base := base) X G h_oneof z_len o_take
  have o_same := ok_same (P := P) (w := w) (base := base) X G h_same z_isinstance z_dict z_sorted z_all z_list z_tuple z_len z_zip z_bool z_str z_int  6
  have o_lnum := ok_lnum (P := P) (w := w) (base := base) X G h_lnum z_min 
  have o_ladd := ok_ladd (P := P) (w := w) (base := base) X G h_ladd  o_lnum
  have o_lsub := ok_lsub (P := P) (w := w) (base := base) X G h_lsub  o_ladd
  have o_lmul := ok_lmul (P := P) (w := w) (base := base) X G h_lmul  o_lnum
  have o_lbelow := ok_lbelow (P := P) (w := w) (base := base) X G h_lbelow  
  have o_lfloor := ok_lfloor (P := P) (w := w) (base := base) X G h_lfloor z_range o_lnum
  have o_lpow := ok_lpow (P := P) (w := w) (base := base) X G h_lpow z_range 
  have o_lany := ok_lany (P := P) (w := w) (base := base) X G h_lany  o_take o_oneof o_lpow
  have o_lsize := ok_lsize (P := P) (w := w) (base := base) X G h_lsize z_range 
  have o_cutr := ok_cutr (P := P) (w := w) (base := base) X G h_cutr  o_cutof o_lpow o_lbelow o_ladd o_lnum o_lsize o_same o_lfloor
  have o_pairr := ok_pairr (P := P) (w := w) (base := base) X G h_pairr z_all o_lany o_lnum o_take q_numof o_sumof o_lessof o_ladd o_lsub o_timesof o_isbelow o_figs o_lmul o_lbelow o_lsize o_same o_cutr
  have o_listsr := ok_listsr (P := P) (w := w) (base := base) X G h_listsr z_range z_list o_take o_lnum o_lbelow o_same o_leastnum o_mostnum
  exact (show AllAt _ _ _ _ _ _ tb_law from allAt1 (o_folded.at (by decide)) (allAt1 (o_dip.at (by decide)) (allAt1 (o_pairr.at (by decide)) (allAt1 (o_listsr.at (by decide)) (trivial)))))
theorem walk {l : PySem.W.OpenLaw} {q : Program} {loose : List Str} {XP : (Str → Option Value) → Heap → Prop} {YP : World → Heap → Prop} {d : DefRec} {K : Params → PySem.W.Frag} (hn : l.most = some 63) (hdf : d.params.defaults = [])
    (hY : ∀ (w : World) (h : Heap), YP w h → (K w.params).In h)
    (F : ∀ (w : World) (mg : Str → Option Value) (fa : Addr) (h : Heap), (K w.params).In h → h.Ns mainGlobals mg → mg d.name = some (.ref fa) →
      ∃ fd : FuncData, (∀ (s : Shared) (u : Value), BindsTo s fd ⟨[u], []⟩ [("_law_script", u)]) ∧ ∀ base : Heap, (K w.params).In base → base.Ns mainGlobals mg → FnOk l.prog w (K w.params) mg base CX0 9 fa fd ["_law_script"] (spF (K w.params) f_law)) :
    PySem.W.WalkO q loose XP YP l.row.toRowW d [] (fun f vs => PySem.call f vs) :=
  L2.walk_of (n := 63) (k := 9) (x := "_law_script") (CX := fun _ => CX0) (sp := fun w => spF (K w.params) f_law) hn (by decide) hdf ⟨rfl, by decide, by decide⟩ hY F (fun _ _ _ ns hl _ hS => sp_law rfl rfl hS (ev_law ns)) fun _ _ _ _ _ z => z
end K02
end

set_option Elab.async false
open PySem PySem.W PyProof.Rows
set_option maxRecDepth 100000 in
set_option maxHeartbeats 0 in
theorem PySem.Challenge.cw_brookworks_k02_numbers_reckoned_holds : PySem.Challenge.rw_brookworks_k02_numbers_reckoned.Holds := by
  w_on; o_law; k_head; (case hw => w_witness2)
  k_fill
  refine K02.walk (l := PySem.Challenge.rw_brookworks_k02_numbers_reckoned) rfl rfl (fun w h Y => PySem.W.kIn_of Y) ?F
  case F =>
    intro w mg fa h KX G hmg
    refine' K02.all_ok KX G hmg ?h_halv ?h_pow ?h_numof ?h_sumof ?h_lessof ?h_timesof ?h_isbelow ?h_leastnum ?h_mostnum ?h_figs ?h_cutof ?h_dip ?h_take ?h_folded ?h_oneof ?h_same ?h_lnum ?h_ladd ?h_lsub ?h_lmul ?h_lbelow ?h_lfloor ?h_lpow ?h_lany ?h_lsize ?h_cutr ?h_pairr ?h_listsr ?h_law ?y_range ?y_min ?y_len ?y_abs ?y_int ?y_list ?y_enumerate ?y_isinstance ?y_dict ?y_sorted ?y_all ?y_tuple ?y_zip ?y_bool ?y_str
    case h_halv =>
      refine' Bw.has_mk ?a ?l ?c ?k
      (case a => k_is); (case l => k_is); (case c => k_is); (case k => k_is)
    case h_pow =>
      refine' Bw.has_mk ?a ?l ?c ?k
      (case a => k_is); (case l => k_is); (case c => k_is); (case k => k_is)
    case h_numof =>
      refine' Bw.has_mk1 ?a ?l ?c ?k ?lT ?oT
      (case a => k_is); (case l => k_is); (case c => k_is); (case k => k_is); (case lT => k_is); (case oT => rfl)
    case h_sumof =>
      refine' Bw.has_mk ?a ?l ?c ?k
      (case a => k_is); (case l => k_is); (case c => k_is); (case k => k_is)
    case h_lessof =>
      refine' Bw.has_mk ?a ?l ?c ?k
      (case a => k_is); (case l => k_is); (case c => k_is); (case k => k_is)
    case h_timesof =>
      refine' Bw.has_mk ?a ?l ?c ?k
      (case a => k_is); (case l => k_is); (case c => k_is); (case k => k_is)
    case h_isbelow =>
      refine' Bw.has_mk ?a ?l ?c ?k
      (case a => k_is); (case l => k_is); (case c => k_is); (case k => k_is)
    case h_leastnum =>
      refine' Bw.has_mk ?a ?l ?c ?k
      (case a => k_is); (case l => k_is); (case c => k_is); (case k => k_is)
    case h_mostnum =>
      refine' Bw.has_mk ?a ?l ?c ?k
      (case a => k_is); (case l => k_is); (case c => k_is); (case k => k_is)
    case h_figs =>
      refine' Bw.has_mk ?a ?l ?c ?k
      (case a => k_is); (case l => k_is); (case c => k_is); (case k => k_is)
    case h_cutof =>
      refine' Bw.has_mk ?a ?l ?c ?k
      (case a => k_is); (case l => k_is); (case c => k_is); (case k => k_is)
    case h_dip =>
      refine' Bw.has_mk ?a ?l ?c ?k
      (case a => k_is); (case l => k_is); (case c => k_is); (case k => k_is)
    case h_take =>
      refine' Bw.has_mk ?a ?l ?c ?k
      (case a => k_is); (case l => k_is); (case c => k_is); (case k => k_is)
    case h_folded =>
      refine' Bw.has_mk ?a ?l ?c ?k
      (case a => k_is); (case l => k_is); (case c => k_is); (case k => k_is)
    case h_oneof =>
      refine' Bw.has_mk ?a ?l ?c ?k
      (case a => k_is); (case l => k_is); (case c => k_is); (case k => k_is)
    case h_same =>
      refine' Bw.has_mk ?a ?l ?c ?k
      (case a => k_is); (case l => k_is); (case c => k_is); (case k => k_is)
    case h_lnum =>
      refine' Bw.has_mk ?a ?l ?c ?k
      (case a => k_is); (case l => k_is); (case c => k_is); (case k => k_is)
    case h_ladd =>
      refine' Bw.has_mk ?a ?l ?c ?k
      (case a => k_is); (case l => k_is); (case c => k_is); (case k => k_is)
    case h_lsub =>
      refine' Bw.has_mk ?a ?l ?c ?k
      (case a => k_is); (case l => k_is); (case c => k_is); (case k => k_is)
    case h_lmul =>
      refine' Bw.has_mk ?a ?l ?c ?k
      (case a => k_is); (case l => k_is); (case c => k_is); (case k => k_is)
    case h_lbelow =>
      refine' Bw.has_mk ?a ?l ?c ?k
      (case a => k_is); (case l => k_is); (case c => k_is); (case k => k_is)
    case h_lfloor =>
      refine' Bw.has_mk ?a ?l ?c ?k
      (case a => k_is); (case l => k_is); (case c => k_is); (case k => k_is)
    case h_lpow =>
      refine' Bw.has_mk ?a ?l ?c ?k
      (case a => k_is); (case l => k_is); (case c => k_is); (case k => k_is)
    case h_lany =>
      refine' Bw.has_mk ?a ?l ?c ?k
      (case a => k_is); (case l => k_is); (case c => k_is); (case k => k_is)
    case h_lsize =>
      refine' Bw.has_mk ?a ?l ?c ?k
      (case a => k_is); (case l => k_is); (case c => k_is); (case k => k_is)
    case h_cutr =>
      refine' Bw.has_mk ?a ?l ?c ?k
      (case a => k_is); (case l => k_is); (case c => k_is); (case k => k_is)
    case h_pairr =>
      refine' Bw.has_mk ?a ?l ?c ?k
      (case a => k_is); (case l => k_is); (case c => k_is); (case k => k_is)
    case h_listsr =>
      refine' Bw.has_mk ?a ?l ?c ?k
      (case a => k_is); (case l => k_is); (case c => k_is); (case k => k_is)
    case h_law =>
      refine' Bw.has_mk ?a ?l ?c ?k
      (case a => k_is); (case l => k_is); (case c => k_is); (case k => k_is)
    case y_range => k_is
    case y_min => k_is
    case y_len => k_is
    case y_abs => k_is
    case y_int => k_is
    case y_list => k_is
    case y_enumerate => k_is
    case y_isinstance => k_is
    case y_dict => k_is
    case y_sorted => k_is
    case y_all => k_is
    case y_tuple => k_is
    case y_zip => k_is
    case y_bool => k_is
    case y_str => k_is

