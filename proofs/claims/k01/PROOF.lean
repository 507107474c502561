import PyProof.Rows.All
import Wide.All
import OpenK.AllK
import Wide.FinOn
import HandS.ForMost
import HandS.IsInst
import HandS.Wide
import HandS.WideMore
import HandS.Zip
import HandS.Flow
import HandS.Defaults
import HandS.TupAny
import HandS.Style
import HandS.ForExc
import HandS.ExcInit
import HandS.More
import HandS.StrMore
import HandS.StrSplit
import HandS.RaiseMore
import HandS.FStr
import HandS.Sort
import HandS.SortKw
import HandS.WrittenGet
import KE.KExcInit
import PySem.Challenge.RW_brookworks_k01_refusals_and_limits
set_option Elab.async false
set_option linter.all false
set_option maxRecDepth 100000
set_option maxHeartbeats 4000000
/-! Nw: an evaluator over plain data and trees that are held by one place, and its soundness over the layer. -/
namespace Nw
open PySem L2

/-! ### data that never change -/
abbrev D := PyData
def kd : Key → D
  | .inl i => .int i
  | .inr x => .str x
/-! ### trees: what one place holds alone -/
inductive T where
  | d (d : D) | l (ts : List T) | m (kvs : List (Key × T)) | p (n : Nat) | o (c : Str) (fs : List (Str × T))
mutual
/-- a tree as data -/
def fz : T → Option D
  | .d d => some d
  | .l ts => match fzs ts with
    | some ds => some (.list ds)
    | none => none
  | .m kvs => match fzk kvs with
    | some ds => some (.dict ds)
    | none => none
  | .p _ => none
  | .o _ _ => none
def fzs : List T → Option (List D)
  | [] => some []
  | t :: ts => match fz t with
    | some d => (match fzs ts with
      | some ds => some (d :: ds)
      | none => none)
    | none => none
def fzk : List (Key × T) → Option (List (D × D))
  | [] => some []
  | (k, t) :: r => match fz t with
    | some d => (match fzk r with
      | some ds => some ((kd k, d) :: ds)
      | none => none)
    | none => none
end
theorem fzs_cons {t : T} {ts : List T} {ds : List D} (h : fzs (t :: ts) = some ds) : ∃ d es, fz t = some d ∧ fzs ts = some es ∧ ds = d :: es := by
  unfold fzs at h
  cases e : fz t with
  | none => rw [e] at h; cases h
  | some d =>
    rw [e] at h
    cases e' : fzs ts with
    | none => rw [e'] at h; cases h
    | some es => rw [e'] at h; cases h; exact ⟨d, es, rfl, rfl, rfl⟩
theorem fzk_cons {k : Key} {t : T} {ts : List (Key × T)} {ds : List (D × D)} (h : fzk ((k, t) :: ts) = some ds) : ∃ d es, fz t = some d ∧ fzk ts = some es ∧ ds = (kd k, d) :: es := by
  unfold fzk at h
  cases e : fz t with
  | none => rw [e] at h; cases h
  | some d =>
    rw [e] at h
    cases e' : fzk ts with
    | none => rw [e'] at h; cases h
    | some es => rw [e'] at h; cases h; exact ⟨d, es, rfl, rfl, rfl⟩
theorem fz_l {ts : List T} {d : D} (h : fz (.l ts) = some d) : ∃ ds, fzs ts = some ds ∧ d = .list ds := by
  unfold fz at h
  cases e : fzs ts with
  | none => rw [e] at h; cases h
  | some ds => rw [e] at h; cases h; exact ⟨ds, rfl, rfl⟩
theorem fz_m {ts : List (Key × T)} {d : D} (h : fz (.m ts) = some d) : ∃ ds, fzk ts = some ds ∧ d = .dict ds := by
  unfold fz at h
  cases e : fzk ts with
  | none => rw [e] at h; cases h
  | some ds => rw [e] at h; cases h; exact ⟨ds, rfl, rfl⟩
theorem fzs_d : ∀ ds : List D, fzs (ds.map T.d) = some ds
  | [] => rfl
  | d :: ds => by
    show (match fz (.d d) with | some d => (match fzs (ds.map T.d) with | some ds => some (d :: ds) | none => none) | none => none) = _
    rw [fzs_d ds]
    rfl
mutual
/-- no object that changes is part of it -/
def still : D → Bool
  | .none => true
  | .bool _ => true
  | .int _ => true
  | .str _ => true
  | .list _ => false
  | .tuple xs => stills xs
  | .dict _ => false
def stills : List D → Bool
  | [] => true
  | d :: ds => still d && stills ds
end
mutual
def stillT : T → Bool
  | .d d => still d
  | .l ts => stillTs ts
  | .m kvs => stillTk kvs
  | .p _ => true
  | .o _ _ => false
def stillTs : List T → Bool
  | [] => true
  | t :: ts => stillT t && stillTs ts
def stillTk : List (Key × T) → Bool
  | [] => true
  | (_, t) :: r => stillT t && stillTk r
end

/-! ### values and data -/
mutual
inductive Dt (K : PySem.W.Frag) (H : Hp) : V → D → Prop
  | non : Dt K H .non .none
  | bl (b : Bool) : Dt K H (.bl b) (.bool b)
  | int (i : Int) : Dt K H (.int i) (.int i)
  | str (x : Str) : Dt K H (.str x) (.str x)
  | lst {a : Addr} {xs : List V} {ds : List D} : SqL K H a xs → DtAll K H xs ds → Dt K H (.ref a) (.list ds)
  | tup {a : Addr} {xs : List V} {ds : List D} : SqT K H a xs → DtAll K H xs ds → Dt K H (.ref a) (.tuple ds)
  | dct {a : Addr} {kvs : List (Key × V)} {ds : List (D × D)} : H a = some (.dK kvs) → DtK K H kvs ds → Dt K H (.ref a) (.dict ds)
  | exc {a C : Addr} {dx : Option Addr} {fs : List (Str × V)} {ds : List (D × D)} : H a = some (exo a C dx) → (dx = none → fs = []) → (∀ x, dx = some x → H x = some (exd x fs)) → DtF K H fs ds → Dt K H (.ref a) (.dict ((.none, .int C) :: ds))
inductive DtAll (K : PySem.W.Frag) (H : Hp) : List V → List D → Prop
  | nil : DtAll K H [] []
  | cons {v : V} {vs : List V} {d : D} {ds : List D} : Dt K H v d → DtAll K H vs ds → DtAll K H (v :: vs) (d :: ds)
inductive DtK (K : PySem.W.Frag) (H : Hp) : List (Key × V) → List (D × D) → Prop
  | nil : DtK K H [] []
  | cons {k : Key} {v : V} {vs : List (Key × V)} {d : D} {ds : List (D × D)} : Dt K H v d → DtK K H vs ds → DtK K H ((k, v) :: vs) ((kd k, d) :: ds)
inductive DtF (K : PySem.W.Frag) (H : Hp) : List (Str × V) → List (D × D) → Prop
  | nil : DtF K H [] []
  | cons {k : Str} {v : V} {vs : List (Str × V)} {d : D} {ds : List (D × D)} : Dt K H v d → DtF K H vs ds → DtF K H ((k, v) :: vs) ((.str k, d) :: ds)
end
theorem sqT_mono {K : PySem.W.Frag} {H H' : Hp} (e : Same H H') {a : Addr} {xs : List V} (h : SqT K H a xs) : SqT K H' a xs := by
  rcases h with (h | ⟨o, h⟩) | h
  · exact .inl (.inl (e _ _ h))
  · exact .inl (.inr ⟨o, e _ _ h⟩)
  · exact .inr h
section
variable {K : PySem.W.Frag} {I I' H H' : Hp}
mutual
theorem Dt.mono (e : Same H H') : ∀ {v : V} {d : D}, Dt K H v d → Dt K H' v d
  | _, _, .non => .non
  | _, _, .bl b => .bl b
  | _, _, .int i => .int i
  | _, _, .str x => .str x
  | _, _, .lst h1 h2 => .lst (e.seq h1) (DtAll.mono e h2)
  | _, _, .tup h1 h2 => .tup (sqT_mono e h1) (DtAll.mono e h2)
  | _, _, .dct h1 h2 => .dct (e _ _ h1) (DtK.mono e h2)
  | _, _, .exc h1 h2 h3 h4 => .exc (e _ _ h1) h2 (fun x q => e _ _ (h3 x q)) (DtF.mono e h4)
theorem DtAll.mono (e : Same H H') : ∀ {vs : List V} {ds : List D}, DtAll K H vs ds → DtAll K H' vs ds
  | _, _, .nil => .nil
  | _, _, .cons h t => .cons (Dt.mono e h) (DtAll.mono e t)
theorem DtK.mono (e : Same H H') : ∀ {vs : List (Key × V)} {ds : List (D × D)}, DtK K H vs ds → DtK K H' vs ds
  | _, _, .nil => .nil
  | _, _, .cons h t => .cons (Dt.mono e h) (DtK.mono e t)
theorem DtF.mono (e : Same H H') : ∀ {vs : List (Str × V)} {ds : List (D × D)}, DtF K H vs ds → DtF K H' vs ds
  | _, _, .nil => .nil
  | _, _, .cons h t => .cons (Dt.mono e h) (DtF.mono e t)
end
theorem DtAll.len : ∀ {vs : List V} {ds : List D}, DtAll K H vs ds → vs.length = ds.length
  | _, _, .nil => rfl
  | _, _, .cons _ h => congrArg Nat.succ (DtAll.len h)
theorem DtAll.get : ∀ {vs : List V} {ds : List D} {i : Nat} {d : D}, DtAll K H vs ds → ds[i]? = some d → ∃ v, vs[i]? = some v ∧ Dt K H v d
  | _, _, _, _, .nil, e => by simp at e
  | _, _, 0, _, .cons h _, e => by simp at e; subst e; exact ⟨_, rfl, h⟩
  | _, _, i + 1, d, .cons _ t, e => by
    obtain ⟨v, h1, h2⟩ := DtAll.get (i := i) (d := d) t (by simpa using e)
    exact ⟨v, by simpa using h1, h2⟩
theorem DtAll.append : ∀ {vs ws : List V} {ds es : List D}, DtAll K H vs ds → DtAll K H ws es → DtAll K H (vs ++ ws) (ds ++ es)
  | _, _, _, _, .nil, s => s
  | _, _, _, _, .cons r t, s => .cons r (DtAll.append t s)
theorem DtAll.take : ∀ {vs : List V} {ds : List D} (n : Nat), DtAll K H vs ds → DtAll K H (vs.take n) (ds.take n)
  | _, _, 0, _ => .nil
  | _, _, _ + 1, .nil => .nil
  | _, _, n + 1, .cons r t => .cons r (DtAll.take n t)
theorem DtAll.drop : ∀ {vs : List V} {ds : List D} (n : Nat), DtAll K H vs ds → DtAll K H (vs.drop n) (ds.drop n)
  | _, _, 0, r => r
  | _, _, _ + 1, .nil => .nil
  | _, _, n + 1, .cons _ t => DtAll.drop n t
theorem DtAll.reverse : ∀ {vs : List V} {ds : List D}, DtAll K H vs ds → DtAll K H vs.reverse ds.reverse
  | _, _, .nil => .nil
  | _, _, .cons h t => by
    rw [List.reverse_cons, List.reverse_cons]
    exact (DtAll.reverse t).append (.cons h .nil)
mutual
/-- data of which no changing object is part stand without those -/
theorem Dt.less (f : Addr → Bool) (hf : ∀ a xs, f a = true → ¬ Rd H a (.tup xs)) : ∀ {v : V} {d : D}, Dt K H v d → still d = true → Dt K (fun a => if f a = true then none else H a) v d
  | _, _, .non, _ => .non
  | _, _, .bl b, _ => .bl b
  | _, _, .int i, _ => .int i
  | _, _, .str x, _ => .str x
  | _, _, .lst h1 h2, s => by cases s
  | _, _, .tup h1 h2, s => by
    refine .tup ?_ (DtAll.less f hf h2 s)
    rcases h1 with h1 | h1
    · refine .inl ?_
      have nf : ∀ a xs, Rd H a (.tup xs) → f a = false := fun a xs r => by
        cases q : f a with
        | false => rfl
        | true => exact absurd r (hf a xs q)
      have e := nf _ _ h1
      rcases h1 with h1 | ⟨o, h1⟩
      · exact .inl (by simp only [e, Bool.false_eq_true, if_false]; exact h1)
      · exact .inr ⟨o, by simp only [e, Bool.false_eq_true, if_false]; exact h1⟩
    · exact .inr h1
  | _, _, .dct h1 h2, s => by cases s
  | _, _, .exc h1 h2 h3 h4, s => by cases s
theorem DtAll.less (f : Addr → Bool) (hf : ∀ a xs, f a = true → ¬ Rd H a (.tup xs)) : ∀ {vs : List V} {ds : List D}, DtAll K H vs ds → stills ds = true → DtAll K (fun a => if f a = true then none else H a) vs ds
  | _, _, .nil, _ => .nil
  | _, _, .cons h t, s => by
    have s' := Bool.and_eq_true_iff.mp (show (still _ && stills _) = true from s)
    exact .cons (Dt.less f hf h s'.1) (DtAll.less f hf t s'.2)
end
end

/-! ### trees in the heap -/
mutual
/-- v is the tree t; fp: the objects that it is made of -/
inductive TR (K : PySem.W.Frag) (B : List V) (I H : Hp) : V → T → List Addr → Prop
  | d {v : V} {d : D} : Dt K I v d → TR K B I H v (.d d) []
  | l {a : Addr} {vs : List V} {ts : List T} {fp : List Addr} : H a = some (.lst vs) → TRs K B I H vs ts fp → TR K B I H (.ref a) (.l ts) (a :: fp)
  | m {a : Addr} {vs : List (Key × V)} {ts : List (Key × T)} {fp : List Addr} : H a = some (.dK vs) → TRk K B I H vs ts fp → TR K B I H (.ref a) (.m ts) (a :: fp)
  | p {n : Nat} {v : V} : B[n]? = some v → TR K B I H v (.p n) []
inductive TRs (K : PySem.W.Frag) (B : List V) (I H : Hp) : List V → List T → List Addr → Prop
  | nil : TRs K B I H [] [] []
  | cons {v : V} {vs : List V} {t : T} {ts : List T} {fp fq : List Addr} : TR K B I H v t fp → TRs K B I H vs ts fq → TRs K B I H (v :: vs) (t :: ts) (fp ++ fq)
inductive TRk (K : PySem.W.Frag) (B : List V) (I H : Hp) : List (Key × V) → List (Key × T) → List Addr → Prop
  | nil : TRk K B I H [] [] []
  | cons {k : Key} {v : V} {vs : List (Key × V)} {t : T} {ts : List (Key × T)} {fp fq : List Addr} : TR K B I H v t fp → TRk K B I H vs ts fq → TRk K B I H ((k, v) :: vs) ((k, t) :: ts) (fp ++ fq)
end
section
variable {K : PySem.W.Frag} {B : List V} {I I' H H' : Hp}
mutual
theorem TR.mono (e : Same I I') : ∀ {v : V} {t : T} {fp : List Addr}, TR K B I H v t fp → (∀ a ∈ fp, ∀ o, H a = some o → H' a = some o) → TR K B I' H' v t fp
  | _, _, _, .d h, _ => .d (h.mono e)
  | _, _, _, .l h1 h2, k => .l (k _ (by simp) _ h1) (TRs.mono e h2 fun a ha => k a (by simp [ha]))
  | _, _, _, .m h1 h2, k => .m (k _ (by simp) _ h1) (TRk.mono e h2 fun a ha => k a (by simp [ha]))
  | _, _, _, .p h, _ => .p h
theorem TRs.mono (e : Same I I') : ∀ {v : List V} {t : List T} {fp : List Addr}, TRs K B I H v t fp → (∀ a ∈ fp, ∀ o, H a = some o → H' a = some o) → TRs K B I' H' v t fp
  | _, _, _, .nil, _ => .nil
  | _, _, _, .cons h1 h2, k => .cons (TR.mono e h1 fun a ha => k a (by simp [ha])) (TRs.mono e h2 fun a ha => k a (by simp [ha]))
theorem TRk.mono (e : Same I I') : ∀ {v : List (Key × V)} {t : List (Key × T)} {fp : List Addr}, TRk K B I H v t fp → (∀ a ∈ fp, ∀ o, H a = some o → H' a = some o) → TRk K B I' H' v t fp
  | _, _, _, .nil, _ => .nil
  | _, _, _, .cons h1 h2, k => .cons (TR.mono e h1 fun a ha => k a (by simp [ha])) (TRk.mono e h2 fun a ha => k a (by simp [ha]))
end
mutual
/-- the objects of a tree stand, and none is a tuple -/
theorem TR.at : ∀ {v : V} {t : T} {fp : List Addr}, TR K B I H v t fp → ∀ a ∈ fp, (∃ vs, H a = some (.lst vs)) ∨ ∃ kvs, H a = some (.dK kvs)
  | _, _, _, .d _, a, ha => by cases ha
  | _, _, _, .p _, a, ha => by cases ha
  | _, _, _, .l h1 h2, a, ha => by
    rcases List.mem_cons.mp ha with rfl | ha
    · exact .inl ⟨_, h1⟩
    · exact TRs.at h2 a ha
  | _, _, _, .m h1 h2, a, ha => by
    rcases List.mem_cons.mp ha with rfl | ha
    · exact .inr ⟨_, h1⟩
    · exact TRk.at h2 a ha
theorem TRs.at : ∀ {v : List V} {t : List T} {fp : List Addr}, TRs K B I H v t fp → ∀ a ∈ fp, (∃ vs, H a = some (.lst vs)) ∨ ∃ kvs, H a = some (.dK kvs)
  | _, _, _, .nil, a, ha => by cases ha
  | _, _, _, .cons h1 h2, a, ha => by
    rcases List.mem_append.mp ha with ha | ha
    · exact TR.at h1 a ha
    · exact TRs.at h2 a ha
theorem TRk.at : ∀ {v : List (Key × V)} {t : List (Key × T)} {fp : List Addr}, TRk K B I H v t fp → ∀ a ∈ fp, (∃ vs, H a = some (.lst vs)) ∨ ∃ kvs, H a = some (.dK kvs)
  | _, _, _, .nil, a, ha => by cases ha
  | _, _, _, .cons h1 h2, a, ha => by
    rcases List.mem_append.mp ha with ha | ha
    · exact TR.at h1 a ha
    · exact TRk.at h2 a ha
end
theorem TR.ex {v : V} {t : T} {fp : List Addr} (h : TR K B I H v t fp) {a : Addr} (ha : a ∈ fp) : ∃ o, H a = some o := by
  rcases h.at a ha with ⟨_, q⟩ | ⟨_, q⟩ <;> exact ⟨_, q⟩
mutual
/-- frozen: the tree's objects are held for good -/
theorem TR.dt (e : Same I I') : ∀ {v : V} {t : T} {fp : List Addr} {d : D}, TR K B I H v t fp → fz t = some d → (∀ a ∈ fp, ∀ o, H a = some o → I' a = some o) → Dt K I' v d
  | _, _, _, _, .d h, q, _ => by cases q; exact h.mono e
  | _, _, _, _, .l h1 h2, q, k => by
    obtain ⟨ds, q1, rfl⟩ := fz_l q
    exact .lst (SqL.of (k _ (by simp) _ h1)) (TRs.dt e h2 q1 fun a ha => k a (by simp [ha]))
  | _, _, _, _, .m h1 h2, q, k => by
    obtain ⟨ds, q1, rfl⟩ := fz_m q
    exact .dct (k _ (by simp) _ h1) (TRk.dt e h2 q1 fun a ha => k a (by simp [ha]))
  | _, _, _, _, .p h, q, _ => by cases q
theorem TRs.dt (e : Same I I') : ∀ {v : List V} {t : List T} {fp : List Addr} {ds : List D}, TRs K B I H v t fp → fzs t = some ds → (∀ a ∈ fp, ∀ o, H a = some o → I' a = some o) → DtAll K I' v ds
  | _, _, _, _, .nil, q, _ => by cases q; exact .nil
  | _, _, _, _, .cons h1 h2, q, k => by
    obtain ⟨d, es, q1, q2, rfl⟩ := fzs_cons q
    exact .cons (TR.dt e h1 q1 fun a ha => k a (by simp [ha])) (TRs.dt e h2 q2 fun a ha => k a (by simp [ha]))
theorem TRk.dt (e : Same I I') : ∀ {v : List (Key × V)} {t : List (Key × T)} {fp : List Addr} {ds : List (D × D)}, TRk K B I H v t fp → fzk t = some ds → (∀ a ∈ fp, ∀ o, H a = some o → I' a = some o) → DtK K I' v ds
  | _, _, _, _, .nil, q, _ => by cases q; exact .nil
  | _, _, _, _, .cons h1 h2, q, k => by
    obtain ⟨d, es, q1, q2, rfl⟩ := fzk_cons q
    exact .cons (TR.dt e h1 q1 fun a ha => k a (by simp [ha])) (TRk.dt e h2 q2 fun a ha => k a (by simp [ha]))
end
mutual
/-- trees of still data stand without other changing objects -/
theorem TR.less (f : Addr → Bool) (hf : ∀ a xs, f a = true → ¬ Rd I a (.tup xs)) : ∀ {v : V} {t : T} {fp : List Addr}, TR K B I H v t fp → stillT t = true → TR K B (fun a => if f a = true then none else I a) H v t fp
  | _, _, _, .d h, s => .d (h.less f hf s)
  | _, _, _, .l h1 h2, s => .l h1 (TRs.less f hf h2 s)
  | _, _, _, .m h1 h2, s => .m h1 (TRk.less f hf h2 s)
  | _, _, _, .p h, s => .p h
theorem TRs.less (f : Addr → Bool) (hf : ∀ a xs, f a = true → ¬ Rd I a (.tup xs)) : ∀ {v : List V} {t : List T} {fp : List Addr}, TRs K B I H v t fp → stillTs t = true → TRs K B (fun a => if f a = true then none else I a) H v t fp
  | _, _, _, .nil, _ => .nil
  | _, _, _, .cons h1 h2, s => by
    have s' := Bool.and_eq_true_iff.mp (show (stillT _ && stillTs _) = true from s)
    exact .cons (TR.less f hf h1 s'.1) (TRs.less f hf h2 s'.2)
theorem TRk.less (f : Addr → Bool) (hf : ∀ a xs, f a = true → ¬ Rd I a (.tup xs)) : ∀ {v : List (Key × V)} {t : List (Key × T)} {fp : List Addr}, TRk K B I H v t fp → stillTk t = true → TRk K B (fun a => if f a = true then none else I a) H v t fp
  | _, _, _, .nil, _ => .nil
  | _, _, _, .cons h1 h2, s => by
    have s' := Bool.and_eq_true_iff.mp (show (stillT _ && stillTk _) = true from s)
    exact .cons (TR.less f hf h1 s'.1) (TRk.less f hf h2 s'.2)
end
theorem TRs.len : ∀ {vs : List V} {ts : List T} {fp : List Addr}, TRs K B I H vs ts fp → vs.length = ts.length
  | _, _, _, .nil => rfl
  | _, _, _, .cons _ h => congrArg Nat.succ (TRs.len h)
theorem TRs.of_data : ∀ {vs : List V} {ds : List D}, DtAll K I vs ds → TRs K B I H vs (ds.map T.d) []
  | _, _, .nil => .nil
  | _, _, .cons h t => .cons (fp := []) (fq := []) (.d h) (TRs.of_data t)
theorem TRs.append : ∀ {vs ws : List V} {ts us : List T} {fp fq : List Addr}, TRs K B I H vs ts fp → TRs K B I H ws us fq → TRs K B I H (vs ++ ws) (ts ++ us) (fp ++ fq)
  | _, _, _, _, _, _, .nil, s => s
  | _, _, _, _, _, _, .cons r t, s => by
    rw [List.append_assoc]
    exact .cons r (TRs.append t s)
theorem TRs.one {v : V} {t : T} {fp : List Addr} (h : TR K B I H v t fp) : TRs K B I H [v] [t] fp := by
  have := TRs.cons h TRs.nil
  rw [List.append_nil] at this
  exact this
end
end Nw

set_option Elab.async false
set_option linter.all false
set_option maxRecDepth 100000
set_option maxHeartbeats 4000000
/-! own exceptions as values, over any of five built-in classes -/
namespace Nw
open PySem L2 PySem.Spec PyProof.Rows PySem.W

/-! ### KeyError -/
abbrev keM : List Value := [.type "KeyError", .type "LookupError", .type "Exception", .type "BaseException", .type "object"]
theorem ke_store : StoreFacts "KeyError" keM "object.__setattr__" "object" := by
  refine { mro := by kernel_rfl, slot := ?s, entry := F.entry_object_sa, kind := by decide +kernel, split := by decide +kernel, hasOwner := by decide +kernel, args := fun a b c => by unfold argsOk; kernel_rfl, passes := fun self => by kernel_rfl }
  case s => exact .of (owner := "object") (n := "__setattr__") (by rw [typeLookup_type, builtinLookup_eq_fast]; kernel_rfl) (by decide +kernel) (by decide +kernel) (by decide +kernel) (by first | exact .inl (by decide +kernel) | exact .inr (by decide +kernel)) (by rw [isSubtype_type]; kernel_rfl)

/-! ### the five -/
/-- a built-in class over which own ones stand: B, whose __init__ is ini; nw: the __new__ of the class nb -/
structure Ba where
  B : String
  ini : String
  nb : String
  nw : String
  m : List Value
structure BaOk (b : Ba) : Prop where
  nf : ∃ i l, ExcBaseFacts b.nb b.nw i l
  nB : b.m.contains (.type b.nb) = true
  nA : b.m.contains (.type "AttributeError") = false
  nN : b.m.contains (.type "NameError") = false
  nX : b.m.contains (.type "BaseException") = true
  own : b.m.contains (.type b.B) = true
  ipl : plainId b.ini = true
  ie : entryFor table b.ini = some Builtin.«BaseException.__init__»
  is : splitId b.ini = some (b.B, "__init__")
  ik : builtinKind b.ini = some .slot
  ir : Manifest.signature? b.ini = some ⟨.positional, "*", b.B, .self, [⟨"args", .varPos, false⟩]⟩
  ns : (b.B != "*") = true
  sf : StoreFacts b.B b.m "object.__setattr__" "object"
  ty : typeOf (.type b.B) = pure (.type "type")
  st : Manifest.isStub b.B = false
  bt : bootBuiltins b.B = some (.type b.B)
  hd : handedIn (.builtin b.ini) = true
  nr : ∀ a : Addr, b.m.contains (.ref a) = false
def bVal : Ba := ⟨"ValueError", "ValueError.__init__", "ValueError", "ValueError.__new__", [.type "ValueError", .type "Exception", .type "BaseException", .type "object"]⟩
def bKey : Ba := ⟨"KeyError", "KeyError.__init__", "LookupError", "LookupError.__new__", keM⟩
def bLok : Ba := ⟨"LookupError", "LookupError.__init__", "LookupError", "LookupError.__new__", [.type "LookupError", .type "Exception", .type "BaseException", .type "object"]⟩
def bRun : Ba := ⟨"RuntimeError", "RuntimeError.__init__", "RuntimeError", "RuntimeError.__new__", [.type "RuntimeError", .type "Exception", .type "BaseException", .type "object"]⟩
def bOvf : Ba := ⟨"OverflowError", "OverflowError.__init__", "OverflowError", "OverflowError.__new__", [.type "OverflowError", .type "ArithmeticError", .type "Exception", .type "BaseException", .type "object"]⟩
theorem ke_ini : entryFor table "KeyError.__init__" = some Builtin.«BaseException.__init__» := entryFor_alias (id' := "BaseException.__init__") (by rw [fastTable_eq_tree]; kernel_rfl) (by decide +kernel) (by decide +kernel) (by rw [fastTable_eq_tree]; kernel_rfl)
theorem ok_bVal : BaOk bVal := ⟨⟨_, _, F.excBase_ValueError⟩, by decide +kernel, by decide +kernel, by decide +kernel, by decide +kernel, by decide +kernel, by decide +kernel, F.excBase_ValueError.initEntry, by kernel_rfl, by kernel_rfl, by kernel_rfl, by decide +kernel, F.store_ValueError, by kernel_rfl, by decide +kernel, by kernel_rfl, by decide +kernel, fun _ => rfl⟩
theorem ok_bKey : BaOk bKey := ⟨⟨_, _, F.excBase_LookupError⟩, by decide +kernel, by decide +kernel, by decide +kernel, by decide +kernel, by decide +kernel, by decide +kernel, ke_ini, by kernel_rfl, by kernel_rfl, by kernel_rfl, by decide +kernel, ke_store, by kernel_rfl, by decide +kernel, by kernel_rfl, by decide +kernel, fun _ => rfl⟩
theorem ok_bLok : BaOk bLok := ⟨⟨_, _, F.excBase_LookupError⟩, by decide +kernel, by decide +kernel, by decide +kernel, by decide +kernel, by decide +kernel, by decide +kernel, F.excBase_LookupError.initEntry, by kernel_rfl, by kernel_rfl, by kernel_rfl, by decide +kernel, F.store_LookupError, by kernel_rfl, by decide +kernel, by kernel_rfl, by decide +kernel, fun _ => rfl⟩
theorem ok_bRun : BaOk bRun := ⟨⟨_, _, F.excBase_RuntimeError⟩, by decide +kernel, by decide +kernel, by decide +kernel, by decide +kernel, by decide +kernel, by decide +kernel, F.excBase_RuntimeError.initEntry, by kernel_rfl, by kernel_rfl, by kernel_rfl, by decide +kernel, F.store_RuntimeError, by kernel_rfl, by decide +kernel, by kernel_rfl, by decide +kernel, fun _ => rfl⟩
theorem ok_bOvf : BaOk bOvf := ⟨⟨_, _, F.excBase_OverflowError⟩, by decide +kernel, by decide +kernel, by decide +kernel, by decide +kernel, by decide +kernel, by decide +kernel, F.excBase_OverflowError.initEntry, by kernel_rfl, by kernel_rfl, by kernel_rfl, by decide +kernel, F.store_OverflowError, by kernel_rfl, by decide +kernel, by kernel_rfl, by decide +kernel, fun _ => rfl⟩

/-! ### made: __new__, then the own __init__; keywords too -/
abbrev exN (C t : Addr) : Obj := { cls := .ref C, data := .fields #[.ref t, .none, .none, .none, .bool false, .none] }
section
variable {prog : Program} {w : World} {A : Around} {E : Value → Shared → Prop} {R : Result → Shared → Prop} {h : Heap} {g : Array GenState} {d : Drawn} {t : Nat} {os : OsState}
variable {nm q : Str} {C N fI : Addr} {bs bm bmB : List Value} {hdct ab : Bool} {sn : List Str} {sub rest : List Value} {kw : List (Str × Value)} {col : Option Bool} {dd : Option Addr} {k0 k1 k2 k3 k5 : Option Value} {B newId initId : String}
theorem mk_check {M : Model} (F : ExcBaseFacts B newId initId bmB) (hB : bm.contains (.type B) = true) {Q : Unit → Shared → Prop}
    (hC : h.get? C = some (excClassObj nm q C N bs bm hdct sn sub ab col dd k0 k1 k2 k3 k5 newId)) (hq : Q () ⟨h, g, d, t, os⟩) : wpAny M A (checkBuiltinCall newId ⟨.ref C :: rest, kw⟩) Q E ⟨h, g, d, t, os⟩ := by
  have c1 : (Value.ref C :: bm).contains (.type B) = true := by rw [List.contains_cons, hB, Bool.or_true]
  have c2 := F.noStar
  simp only [checkBuiltinCall, F.newKind, F.newSplit, F.newRow]
  repeat (first | refine wpAny_loadPart_at hC ?_ | (refine wpAny_isSubtype_exc hC ?_; rw [c1]) | refine wpAny_staticBase_exc hC ?_ | refine wpAny_madeBy_exc hC ?_ | simp only [bne_self_eq_false, Bool.false_eq_true, if_false] | wp_step)
  exact hq
theorem mk_new (F : ExcBaseFacts B newId initId bmB) (hB : bm.contains (.type B) = true) (hA : bm.contains (.type "AttributeError") = false) (hN : bm.contains (.type "NameError") = false)
    (hC : h.get? C = some (excClassObj nm q C N bs bm hdct sn sub ab col dd k0 k1 k2 k3 k5 newId))
    (hq : R (.ok (.ret (.ref (h.objs.size + 1)))) ⟨(h.push (kdv_tup rest)).push (exN C h.objs.size), g, d, t, os⟩) (hl : rest.length ≤ sizeLine) :
    codeAny (model prog w) A (.builtin newId ⟨.ref C :: rest, kw⟩) R ⟨h, g, d, t, os⟩ := by
  have z0 := F.ends
  have z1 : (Value.ref C :: bm).contains (.type B) = true := by rw [List.contains_cons, hB, Bool.or_true]
  have z2 : (Value.ref C :: bm).contains (.type "AttributeError") = false := by rw [List.contains_cons, hA]; rfl
  have z3 : (Value.ref C :: bm).contains (.type "NameError") = false := by rw [List.contains_cons, hN]; rfl
  refine codeAny_builtinAt F.entry ?_
  unfold Builtin.«BaseException.__new__»
  refine PySem.wpAt_bind ?_
  show PySem.wpAt _ _ _ (stack >>= _) _ _ _
  refine PySem.wpAt_bind (PySem.wpAt_stack fun p below => PySem.wpAt_of_wpAny ?_)
  wp_walk
  refine PySem.wpAt_of_wpAny ?_
  rw [F.owner]
  repeat (first | with_reducible refine wpAny_madeHere_exc F.canon hC ?_ | with_reducible refine wpAny_loadPart_at hC ?_ | (with_reducible refine wpAny_isSubtype_exc hC ?_; first | rw [z1] | rw [z2] | rw [z3]) | wp_step)
  show R _ _
  rw [Heap.size_push]
  exact hq
theorem mk_type (F : ExcBaseFacts B newId initId bmB) (hB : bm.contains (.type B) = true) (hA : bm.contains (.type "AttributeError") = false) (hN : bm.contains (.type "NameError") = false) {Q : Fin → Shared → Prop}
    (hC : h.get? C = some (excClassObj nm q C N bs bm hdct sn sub ab col dd k0 k1 k2 k3 k5 newId))
    (hi : Looks (model prog w) h (typeLookup (.ref C) "__init__") (some (.ref fI))) (hb : ∀ self, Looks (model prog w) h (bindSpecial (.ref fI) self) (.ref fI, [self])) (hl : rest.length ≤ sizeLine)
    (hq : codeAny (model prog w) A (.call (.ref fI) ⟨.ref (h.objs.size + 1) :: rest, kw⟩)
      (fun r s' => match r with | .ok (.ret v) => v = .none ∧ Q (.done (.ret (.ref (h.objs.size + 1)))) s' | .ok _ => False | .error e => E e s') ⟨(h.push (kdv_tup rest)).push (exN C h.objs.size), g, d, t, os⟩) :
    wpAny (model prog w) A (Builtin.«type.__call__» ⟨.ref C :: rest, kw⟩) Q E ⟨h, g, d, t, os⟩ := by
  repeat (first | with_reducible refine wpAny_loadPart_at hC ?_ | with_reducible refine wpAny_madeBy_exc hC ?_ | wp_step)
  refine codeAny_call_builtin_code (Code.quiet_builtin _ F.quiet) (mk_check F hB hC ?_)
  refine mk_new F hB hA hN hC ?_ hl
  show wpAny _ _ _ _ _ _
  have z0 : ∀ b o, h.get? b = some o → ((h.push (kdv_tup rest)).push (exN C h.objs.size)).get? b = some o := fun b o e => Heap.get?_push_of_some _ (Heap.get?_push_of_some _ e)
  have z1 := z0 _ _ hC
  have z2 : ((h.push (kdv_tup rest)).push (exN C h.objs.size)).get? (h.objs.size + 1) = some (exN C h.objs.size) := by heap_get
  have z3 : (Value.ref C :: bm).contains (.ref C) = true := by simp
  have z4 := hi.keeps z0
  have z5 := (hb (.ref (h.objs.size + 1))).keeps z0
  unfold isInstance
  repeat (first | with_reducible refine wpAny_loadPart_at z2 ?_ | (with_reducible refine wpAny_isSubtype_exc z1 ?_; rw [z3]) | wp_step)
  show wpAny _ _ (typeLookup (.ref C) _) _ _ _
  refine z4.at ?_
  refine wpAny_holding (wpAny_bind (z5.at ?_))
  refine wpAny_bind (wpAny_call (codeAny_mono hq fun r s' z => ?_))
  rcases r with e | (v | _ | _ | _) <;> first | exact z | exact z.elim | skip
  obtain ⟨rfl, z⟩ := z
  first
    | exact wpAny_pure (wpAny_pure z)
    | (wp_walk; exact z)
theorem mk_ck {M : Model} {Q : Unit → Shared → Prop} (hC : h.get? C = some (excClassObj nm q C N bs bm hdct sn sub ab col dd k0 k1 k2 k3 k5 newId)) (hq : Q () ⟨h, g, d, t, os⟩) :
    wpAny M A (checkBuiltinCall "type.__call__" ⟨.ref C :: rest, kw⟩) Q E ⟨h, g, d, t, os⟩ := by
  have f1 := tc_sub
  have z0 : (⟨h, g, d, t, os⟩ : Shared).TypeIs (.ref C) "type" := ⟨_, hC, rfl⟩
  simp only [checkBuiltinCall, tc_kind, tc_split]
  repeat (any_goals (first | assumption | with_reducible refine wpAny_loadPart_at hC ?_ | with_reducible refine wpAny_onRaise ?_ | with_reducible refine wpAny_map ?_ | wp_step))
theorem mk_call (F : ExcBaseFacts B newId initId bmB) (hB : bm.contains (.type B) = true) (hA : bm.contains (.type "AttributeError") = false) (hN : bm.contains (.type "NameError") = false)
    (hC : h.get? C = some (excClassObj nm q C N bs bm hdct sn sub ab col dd k0 k1 k2 k3 k5 newId))
    (hi : Looks (model prog w) h (typeLookup (.ref C) "__init__") (some (.ref fI))) (hb : ∀ self, Looks (model prog w) h (bindSpecial (.ref fI) self) (.ref fI, [self])) (hl : rest.length ≤ sizeLine)
    (hq : codeAny (model prog w) (A.under (.builtin "type.__call__" ⟨.ref C :: rest, kw⟩)) (.call (.ref fI) ⟨.ref (h.objs.size + 1) :: rest, kw⟩) (InitBack (h.objs.size + 1) R) ⟨(h.push (kdv_tup rest)).push (exN C h.objs.size), g, d, t, os⟩) :
    codeAny (model prog w) A (.call (.ref C) ⟨rest, kw⟩) R ⟨h, g, d, t, os⟩ := by
  have f1 := tc_lookup
  have f2 := tc_bind (.ref C)
  have z0 : (⟨h, g, d, t, os⟩ : Shared).TypeIs (.ref C) "type" := ⟨_, hC, rfl⟩
  refine codeAny_of_tree ?_
  show wpAny _ _ (callAny (.ref C) _) _ _ _
  repeat (any_goals (first | assumption | with_reducible refine wpAny_loadPart_at hC ?_ | wp_step))
  refine ⟨rfl, ?_⟩
  refine codeAny_call_builtin_at (Code.quiet_builtin _ (by decide +kernel)) entry_typeCall ?_
  refine mk_ck hC ?_
  refine mk_type F hB hA hN hC hi hb hl ?_
  refine codeAny_mono hq fun r s' z => ?_
  rcases r with e | (v | _ | _ | _) <;> exact z
end
end Nw

set_option Elab.async false
set_option linter.all false
set_option maxRecDepth 100000
set_option maxHeartbeats 4000000
namespace Nw
open PySem L2 PySem.Spec PyProof.Rows PySem.W Builtin.ObjectAttr

section
variable {prog : Program} {w : World} {A : Around} {E : Value → Shared → Prop} {R : Result → Shared → Prop} {h : Heap} {g : Array GenState} {d : Drawn} {t : Nat} {os : OsState}
variable {nm q : Str} {C N e : Addr} {bs bm : List Value} {hdct ab : Bool} {sn : List Str} {sub rest : List Value} {col : Option Bool} {dd : Option Addr} {k0 k1 k2 k3 k5 : Option Value} {newId : String} {b : Ba}
theorem ini_ck {M : Model} (ok : BaOk b) (hB : bm.contains (.type b.B) = true) {oe : Obj} {Q : Unit → Shared → Prop}
    (hC : h.get? C = some (excClassObj nm q C N bs bm hdct sn sub ab col dd k0 k1 k2 k3 k5 newId)) (he : h.get? e = some oe) (hc : oe.cls = .ref C) (hq : Q () ⟨h, g, d, t, os⟩) : wpAny M A (checkBuiltinCall b.ini ⟨.ref e :: rest, []⟩) Q E ⟨h, g, d, t, os⟩ := by
  have z0 : (Value.ref C :: bm).contains (.type b.B) = true := by rw [List.contains_cons, hB, Bool.or_true]
  have z1 := ok.ns
  simp only [checkBuiltinCall, ok.ik, ok.is, ok.ir]
  repeat (first | (with_reducible refine wpAny_loadPart_at he ?_; rw [hc]) | with_reducible refine wpAny_loadPart_at hC ?_ | (with_reducible refine wpAny_isSubtype_exc hC ?_; rw [z0]) | wp_step)
  refine wpAny_onRaise ?_
  rw [show ∀ (x y : String) (n : Nat), Bind.check ⟨.positional, "*", b.B, .self, [⟨"args", .varPos, false⟩]⟩ x y n (List.map (fun x => x.fst) ({ pos := Value.ref e :: rest } : Args).kw) = pure () from fun _ _ _ => check_star_args _ _ _ _ _ _]
  exact wpAny_pure hq
theorem ini_run (ok : BaOk b) (hB : bm.contains (.type b.B) = true) {t0 : Addr} (hC : h.get? C = some (excClassObj nm q C N bs bm hdct sn sub ab col dd k0 k1 k2 k3 k5 newId)) (he : h.get? e = some (exN C t0)) (hl : rest.length ≤ sizeLine)
    (hq : ∀ h' t1, (∀ b o, b ≠ e → h.get? b = some o → h'.get? b = some o) → h'.get? e = some (exN C t1) → R (.ok (.ret .none)) ⟨h', g, d, t, os⟩) : codeAny (model prog w) A (.call (.builtin b.ini) ⟨.ref e :: rest, []⟩) R ⟨h, g, d, t, os⟩ := by
  refine codeAny_call_builtin ok.ipl ok.ie (ini_ck ok hB hC he rfl ?_)
  wp_walk
  refine hq _ h.objs.size (fun b o hb ho => ?_) ?_
  · rw [Heap.get?_update_other _ _ (Ne.symm hb)]
    exact Heap.get?_push_of_some _ ho
  · rw [Heap.get?_update_self _ (Heap.get?_push_of_some _ he) rfl]
    rfl
end

/-! ### what the written part says of an own exception class -/
structure ExC (K : Frag) (C : Addr) (b : Ba) : Prop where
  ini : excInitIn K C b.m b.nw = true
  ov : excOver K C b.m = true
  dct : hasDictIn K C = true
  sa : findIn K (.ref C) "__setattr__" = some (some (.builtin "object.__setattr__"))
  ga : findIn K (.ref C) "__getattribute__" = some (some (.builtin "BaseException.__getattribute__"))
  gg : findIn K (.ref C) "__getattr__" = some none
  ex : subIn K (.ref C) (.type "BaseException") = some true
  ty : typeIn K (.ref C) = some (.type "type")
  kp : keepIn K (.ref C) = true
  ca : findIn K (.ref C) "__class__" = some (some (.builtin "object.__class__"))
  cn : specialIn K (.builtin "object.__class__") "__get__" = some (some (.builtin "getset_descriptor.__get__"))
  ct : takesIn K (.builtin "object.__class__") = some true
  mo : mroIn K C (.type "object") = some true
  mr : (clsIn K C).map (·.mro) = some (.ref C :: b.m)
def exB (K : Frag) (C : Addr) (b : Ba) : Bool := excInitIn K C b.m b.nw && (excOver K C b.m && (hasDictIn K C && (decide (findIn K (.ref C) "__setattr__" = some (some (.builtin "object.__setattr__"))) &&
  (decide (findIn K (.ref C) "__getattribute__" = some (some (.builtin "BaseException.__getattribute__"))) && (decide (findIn K (.ref C) "__getattr__" = some none) && (decide (subIn K (.ref C) (.type "BaseException") = some true) &&
  (decide (typeIn K (.ref C) = some (.type "type")) && (keepIn K (.ref C) && (decide (findIn K (.ref C) "__class__" = some (some (.builtin "object.__class__"))) &&
  (decide (specialIn K (.builtin "object.__class__") "__get__" = some (some (.builtin "getset_descriptor.__get__"))) && (decide (takesIn K (.builtin "object.__class__") = some true) && (decide (mroIn K C (.type "object") = some true) && decide ((clsIn K C).map (·.mro) = some (.ref C :: b.m))))))))))))))
theorem exB_ok {K : Frag} {C : Addr} {b : Ba} (h : exB K C b = true) : ExC K C b := by
  unfold exB at h
  simp only [Bool.and_eq_true, decide_eq_true_eq] at h
  obtain ⟨h1, h2, h3, h4, h5, h6, h7, h8, h9, h10, h11, h12, h13, h14⟩ := h
  exact ⟨h1, h2, h3, h4, h5, h6, h7, h8, h9, h10, h11, h12, h13, h14⟩

/-- isinstance, by the classes alone -/
theorem kit_up {K : Frag} {C : Addr} {b : Ba} (T : ExC K C b) (v : Value) : mroIn K C v = some ((Value.ref C :: b.m).contains v) := by
  obtain ⟨cd, h1, h2⟩ := Option.map_eq_some_iff.mp T.mr
  unfold mroIn
  rw [h1, Option.bind_some, h2]
  rfl
theorem kit_own {K : Frag} {C D : Addr} {b b' : Ba} (ok : BaOk b) (T : ExC K C b) (T' : ExC K D b') : kitOne K (.ref C) (.ref D) = some (decide (C = D)) := by
  unfold kitOne
  by_cases e : C = D
  · subst e
    rw [if_pos (by simp), decide_eq_true rfl]
  · rw [if_neg (fun z => e (Value.ref.inj (beq_iff_eq.mp z))), decide_eq_false e]
    obtain ⟨cd, h1, _⟩ := Option.map_eq_some_iff.mp T'.mr
    have c1 : ((clsIn K D).isSome && typeIn K (.ref D) == some (.type "type")) = true := by rw [h1, T'.ty]; rfl
    show (if ((clsIn K D).isSome && typeIn K (.ref D) == some (.type "type")) = true then subIn K (.ref C) (.ref D) else none) = _
    rw [if_pos c1]
    show mroIn K C (.ref D) = _
    rw [kit_up T, List.contains_cons, ok.nr, Bool.or_false]
    congr 1
    exact beq_eq_false_iff_ne.mpr fun z => e (Value.ref.inj z).symm
theorem kit_blt {K : Frag} {C : Addr} {b : Ba} {n : String} (T : ExC K C b) (hm : kitMeta n = true) : kitOne K (.ref C) (.type n) = some (b.m.contains (.type n)) := by
  unfold kitOne
  rw [if_neg (fun z => by cases beq_iff_eq.mp z)]
  show (if kitMeta n = true then subIn K (.ref C) (.type n) else none) = _
  rw [if_pos hm]
  show mroIn K C (.type n) = _
  rw [kit_up T, List.contains_cons]
  rfl

section
variable {X : Cx} {pins : List (Addr × Obj)} {σ : L2.St} {H : Hp} {s : Shared} {a C dx : Addr} {f : Str} {y : V} {u : Value} {fs : List (Str × V)} {E : Value → Shared → Prop} {A : Around} {b : Ba}
/-- self.f = y, the first one -/
theorem ex_set {Q : Unit → Shared → Prop} (ok : BaOk b) (T : ExC X.K C b) (I : Inv X pins σ H s) (e : H a = some (exo a C none)) (hno : findIn X.K (.ref C) f = some none) (ry : RelV y u)
    (h : ∀ dx s', H dx = none → dx ≠ a → Inv X pins σ (upd (upd H dx (exd dx [(f, y)])) a (exo a C (some dx))) s' → Q () s') : wpAny (model X.prog X.w) A (setAttr (.ref a) f u) Q E s := by
  obtain ⟨t1, ho⟩ := exo_at I.hok e
  obtain ⟨hp, g, d, t, os⟩ := s
  have J : InstAt hp a { cls := .ref C, dict := none, data := .fields #[.ref t1, .none, .none, .none, .bool false, .none] } C none := ⟨ho, rfl, rfl, trivial⟩
  refine set_plain I.kIn J T.sa ?_
  refine osa_openX (s := ⟨hp, g, d, t + 1, os⟩) (r := none) ok.sf I.kIn J T.ov (by unfold takerIn; rw [hno]; rfl) fun bb => ?_
  show wpAny _ _ (storeInOwnDict (.ref a) (.ref C) (.str f t) f u bb) _ _ _
  have hxs : a ≠ hp.objs.size := Nat.ne_of_lt (Heap.lt_size ho)
  obtain ⟨cd, hcd, hh⟩ := any_some T.dct
  have hcls : Looks (model X.prog X.w) hp (classData C) cd := looks_clsIn I.kIn hcd
  obtain ⟨nm, bs, mro, ns, qn, hd, sn, sb, ab, col, del⟩ := cd
  dsimp only at hh
  subst hh
  unfold storeInOwnDict ownDictForStores
  repeat (first | with_reducible refine HandSPX.store_in_new ?_ ?_ | with_reducible refine wpAny_loadPart_at ho ?_ | with_reducible refine hcls.at ?_ | wp_step)
  · exact ⟨_, #[], _, (Heap.get?_update_ne _ _ _ _ hxs.symm).trans (Heap.get?_push_at rfl rfl), rfl, fun e he => absurd he (by simp), fun _ => rfl⟩
  · intro h' tk' hn hs
    have hx₁ : (hp.push { cls := .type "dict", data := .dict #[] }).get? a = some { cls := .ref C, dict := none, data := .fields #[.ref t1, .none, .none, .none, .bool false, .none] } := Heap.get?_push_of_some _ ho
    have k : ∀ b o, b ≠ a → hp.get? b = some o → h'.get? b = some o := fun b o hb ho => (hs.2 b (Nat.ne_of_lt (Heap.lt_size ho))).trans ((Heap.get?_update_ne _ _ _ _ hb).trans (Heap.get?_push_of_some _ ho))
    have hx : h'.get? a = some { cls := .ref C, dict := some hp.objs.size, data := .fields #[.ref t1, .none, .none, .none, .bool false, .none] } := (hs.2 a hxs).trans (Heap.get?_update_self _ hx₁ rfl)
    have hnd : H hp.objs.size = none := I.hok.fresh (Nat.le_refl _)
    have nd : ∀ {b : Addr} {o : Obj}, hp.get? b = some o → b ≠ hp.objs.size := fun {b o} q => Nat.ne_of_lt (Heap.lt_size q)
    have na : ∀ {b : Addr}, H b = none → b ≠ a := fun {b} n z => by
      rw [z, e] at n
      cases n
    have U : Un X.fs [] H (upd (upd H hp.objs.size (exd hp.objs.size [(f, y)])) a (exo a C (some hp.objs.size))) hp h' := {
      keep := fun b o q n _ _ => k b o (na n) q
      slot := fun b o q n _ _ => ⟨o.slots, k b o (na n) q⟩
      free := fun b o q n _ => by rw [upd_ne (na n), upd_ne (nd q)]; exact n
      there := fun b o q _ => by
        by_cases hb : b = a
        · exact ⟨_, by rw [hb]; exact hx⟩
        · exact ⟨o, k b o hb q⟩
      tups := fun b xs q => by rw [upd_ne (at_ne e q exo_tup), upd_ne (ne_of_none q hnd)]; exact q
      frzs := fun b o v q => by rw [upd_ne (at_ne e q exo_frz), upd_ne (ne_of_none q hnd)]; exact q
      tbls := fun b ps q => ⟨#[], by rw [upd_ne (at_ne e q exo_tbl), upd_ne (ne_of_none q hnd), q]; simp⟩ }
    have J2 := h hp.objs.size ⟨h', g, d, tk', os⟩ hnd hxs.symm (I.un (t' := tk') U fun b o q => ?_)
    · exact J2
    · by_cases hb : b = a
      · subst hb
        rw [upd_same] at q
        cases q
        exact exo_ok hx
      · rw [upd_ne hb] at q
        by_cases hd : b = hp.objs.size
        · subst hd
          rw [upd_same] at q
          cases q
          exact exd_ok hn (relO_put (fs := []) ry fun g => True.intro)
        · rw [upd_ne hd] at q
          exact (I.hok b o q).stay (fun c v hc z => k c v (by
              rcases hc with hc | hc
              · rw [hc]
                exact hb
              · exact at_ne e hc exo_own) z)
            (fun c hc => by rw [upd_ne (at_ne e hc exo_own), upd_ne (ne_of_none hc hnd)]; exact hc) (fun c xs hc => by rw [upd_ne (at_ne e hc exo_tup), upd_ne (ne_of_none hc hnd)]; exact hc)
/-- B.__init__(self, ..) -/
theorem ex_ini {us : List Value} {Q : Value → Shared → Prop} (ok : BaOk b) (T : ExC X.K C b) (I : Inv X pins σ H s) (e : H a = some (exo a C none)) (hl : us.length ≤ sizeLine) (h : ∀ s', Inv X pins σ H s' → Q .none s') :
    wpAny (model X.prog X.w) A (call (.builtin b.ini) (.ref a :: us)) Q E s := by
  obtain ⟨nm, N, qn, bs, bm, hdct, sn, sub, ab, col, dd, k0, k1, k2, k3, k5, hC, hT⟩ := excInit_of I.kIn T.ini
  obtain ⟨t1, ho⟩ := exo_at I.hok e
  obtain ⟨hp, g, d, t, os⟩ := s
  refine wpAny_call (ini_run ok ((hT b.B).trans ok.own) hC ho hl fun h' t2 k hx => ?_)
  have J := I.write (t' := t) (x := a) (e := a) (o := exo a C none) (by rw [e]; exact True.intro) (.inl rfl) k ⟨_, hx⟩ (exo_ok hx)
  have eu : upd H a (exo a C none) = H := by
    funext c
    by_cases hb : c = a
    · rw [hb, upd_same, e]
    · rw [upd_ne hb]
  rw [eu] at J
  exact h _ J
end
end Nw

set_option Elab.async false
set_option linter.all false
set_option maxRecDepth 100000
set_option maxHeartbeats 4000000
namespace Nw
open PySem L2 PySem.Spec PyProof.Rows PySem.W Builtin.ObjectAttr

/-- B.__init__(self, ..), as read -/
def tBI (K : Frag) (b : Ba) (ta : TA) : TE := fun σ H Q => ta σ H fun vs H1 => ∃ (a C : Addr) (ws : List V), vs = .ref a :: ws ∧ ws.length ≤ 1000 ∧ ExC K C b ∧ H1 a = some (exo a C none) ∧ Q .non H1
/-- self.f = e, the first field -/
def tFS (K : Frag) (b : Ba) (f : Str) (to te : TE) : TS := fun D σ H => te σ H fun y H1 => to σ H1 fun x H2 => ∃ a C : Addr, x = .ref a ∧ ExC K C b ∧ findIn K (.ref C) f = some none ∧ H2 a = some (exo a C none) ∧
  ∀ dx, H2 dx = none → dx ≠ a → D.nx σ (upd (upd H2 dx (exd dx [(f, y)])) a (exo a C (some dx)))
section
variable {X : Cx} {o e : Expr} {es : List Expr} {to te : TE} {ta : TA} {f : Str} {p p' p1 p2 pos : Pos} {b : Ba}
theorem pe_bi {pl : Sem Bool} {B : Str} (ok : BaOk b) (eB : B = Str.ofString b.B) (hg : Gl X B) (hm : X.mg B = none) (vV : findCls X.K (.type b.B) (.type "type") "__init__" = some (.val (.builtin b.ini))) (ha : PA X (e :: es) ta) (n1 : B ≠ "__name__") (n2 : (B == ("__debug__" : Str)) = false)
    (hc : eval (.Call (.Attribute (.Name B p1) "__init__" p2) (e :: es) [] pos) X.env = (do
      let ov ← eval (.Name B p1) X.env
      standAt p2.atName
      let (m, fst) ← holding [ov] (getMethod ov "__init__" pl)
      callWith pos m fst (backTo pos (starEach (e :: es) X.env)) (backToKw pos (keywordEach [] X.env))) := by rfl)
    (he : starEach (e :: es) X.env = (false, eval e X.env) :: starEach es X.env := by rfl) (hpl : (backTo pos (starEach es X.env)).any (·.1) = false := by rfl) :
    PE X (.Call (.Attribute (.Name B p1) "__init__" p2) (e :: es) [] pos) (tBI X.K b ta) := by
  refine ⟨fun pins s σ H Q I h => ?_⟩
  refine methodCall_KW (ld_blt I hg hm (by rw [eB]; exact ok.bt) ?_ n1 n2) hc
  obtain ⟨m, fr⟩ := I.fr
  refine method_type fr I.ok.mod.kin ok.ty ok.st vV ok.hd ?_
  show wpAny _ _ (callWith pos (Value.builtin b.ini) [] (backTo pos (starEach (e :: es) X.env)) []) _ _ _
  refine callWith_method1 (thn (ha.run pos pins _ σ H _ (I.tok _) h) fun us s1 ⟨vs, H1, I1, r1, a, C, ws, ev, hl, T, ea, q⟩ => ?_) he hpl
  subst ev
  cases r1 with
  | @cons _ u0 _ ur ra rw' =>
    obtain rfl : u0 = Value.ref a := ra
    have hlen : ur.length ≤ sizeLine := by
      rw [← Paired.length rw', sizeLine_eq]
      omega
    exact ex_ini ok T I1 ea hlen fun s' J => ⟨.non, H1, J, rfl, q⟩
theorem ps_fs (ok : BaOk b) (ho : PE X o to) (he : PE X e te) (hs : swapsWith e (some (.Attribute o f p')) pos.line X.env = pure false := by rfl) : PS X (.Assign [.Attribute o f p'] e pos) (tFS X.K b f to te) := by
  refine ⟨fun pins s σ H D I h => ?_⟩
  refine plainObj_wpAny_Assign_Attribute (thn (he.run pins s σ H _ I h) fun v s1 ⟨y, H1, I1, r1, q1⟩ => thn (ho.run pins s1 σ H1 _ I1 q1) fun u s2 ⟨x, H2, I2, r2, a, C, ex, T, hno, ea, q⟩ => ?_) hs
  subst ex
  obtain rfl : u = Value.ref a := r2
  exact ex_set ok T I2 ea hno r1 fun dx s' n ne J => ⟨σ, _, J, q dx n ne⟩
end

/-! ### the promise of __init__ -/
def spIni (C : Addr) (f : Str) : Sp := fun vs H Q _ => ∃ (a : Addr) (v : V), vs = [.ref a, v] ∧ H a = some (exo a C none) ∧ ∀ dx, H dx = none → dx ≠ a → Q .non (upd (upd H dx (exd dx [(f, v)])) a (exo a C (some dx)))
def spIni0 (C : Addr) : Sp := fun vs H Q _ => ∃ a : Addr, vs = [.ref a] ∧ H a = some (exo a C none) ∧ Q .non H
/-- such bodies -/
def iniCall (B : Str) (k : Nat) (p0 p1 p2 p3 p4 p5 : Pos) : Stmt := .Expr (.Call (.Attribute (.Name B p0) "__init__" p1) [.Name "self" p2, .Constant (.str "refused") k p3] [] p4) p5
def iniBody (B f : Str) (k : Nat) (p0 p1 p2 p3 p4 p5 p6 p7 p8 p9 : Pos) : List Stmt := [iniCall B k p0 p1 p2 p3 p4 p5, .Assign [.Attribute (.Name "self" p6) f p7] (.Name f p8) p9]
/-- how the call of B.__init__ is walked (by its places in the text) -/
def IniWay (B : Str) (k : Nat) (p0 p1 p2 p3 p4 : Pos) : Prop := ∀ env : Env, ∃ pl, eval (.Call (.Attribute (.Name B p0) "__init__" p1) [.Name "self" p2, .Constant (.str "refused") k p3] [] p4) env = (do
  let ov ← eval (.Name B p0) env
  standAt p1.atName
  let (m, fst) ← holding [ov] (getMethod ov "__init__" pl)
  callWith p4 m fst (backTo p4 (starEach [.Name "self" p2, .Constant (.str "refused") k p3] env)) (backToKw p4 (keywordEach [] env)))
section
variable {P : Program} {w : World} {K : Frag} {mg : Str → Option Value} {base : Heap} {b : Ba} {C fI : Addr} {B f qual : Str} {params : Arguments} {scope : Scope} {fd : FuncData} {kk : Nat} {p0 p1 p2 p3 p4 p5 p6 p7 p8 p9 : Pos}
theorem ini_ok (ok : BaOk b) (T : ExC K C b) (F : FunD K "__init__" qual params (iniBody B f kk p0 p1 p2 p3 p4 p5 p6 p7 p8 p9) scope [] [] fI fd) (Sc : FnScope ["self", f] ["self", f] scope) (eB : B = Str.ofString b.B) (gB : scope.names.lookup B = some .globalImplicit)
    (l0 : scope.names.lookup ("self" : Str) = some .local) (l1 : scope.names.lookup f = some .local) (mB : mg B = none) (vV : findCls K (.type b.B) (.type "type") "__init__" = some (.val (.builtin b.ini))) (hno : findIn K (.ref C) f = some none)
    (hc : IniWay B kk p0 p1 p2 p3 p4) (n1 : B ≠ "__name__") (n2 : (B == ("__debug__" : Str)) = false) (n3 : (f == ("__debug__" : Str)) = false) (n4 : (f == ("__classdict__" : Str)) = false) : FnOk P w K mg base CX0 1 fI fd ["self", f] (spIni C f) := by
  refine F.ok Sc (fun vs H Q E h => ?_) (fun cdv A outer s H vs Q E hr h => ?_)
  · obtain ⟨a, v, rfl, _⟩ := h
    rfl
  · obtain ⟨a, v, rfl, ea, q⟩ := h
    have v0 := pe_var (X := cxOf CX0 P w K mg base ["self", f] qual scope fI cdv A outer s H E) (x := "self") (i := 0) (pos := p2) rfl (.inl l0) (by decide) (by decide)
    have v0' := pe_var (X := cxOf CX0 P w K mg base ["self", f] qual scope fI cdv A outer s H E) (x := "self") (i := 0) (pos := p6) rfl (.inl l0) (by decide) (by decide)
    have v1 := pe_var (X := cxOf CX0 P w K mg base ["self", f] qual scope fI cdv A outer s H E) (x := f) (i := 1) (pos := p8) rfl (.inl l1) n3 n4
    obtain ⟨pl, hc⟩ := hc (cxOf CX0 P w K mg base ["self", f] qual scope fI cdv A outer s H E).env
    refine ⟨_, pss_cons (ps_expr (pe_bi ok eB gB mB vV (pa_cons v0 (pa_cons pe_str pa_nil)) n1 n2 hc)) (pss_one (ps_fs ok v0' v1)), ?_⟩
    refine ⟨.ref a, rfl, a, C, _, rfl, by decide, T, ea, ?_⟩
    exact ⟨v, rfl, .ref a, rfl, a, C, rfl, T, hno, ea, fun dx n ne => q dx n ne⟩
theorem ini_ok0 (ok : BaOk b) (T : ExC K C b) (F : FunD K "__init__" qual params [iniCall B kk p0 p1 p2 p3 p4 p5] scope [] [] fI fd) (Sc : FnScope ["self"] ["self"] scope) (eB : B = Str.ofString b.B) (gB : scope.names.lookup B = some .globalImplicit)
    (l0 : scope.names.lookup ("self" : Str) = some .local) (mB : mg B = none) (vV : findCls K (.type b.B) (.type "type") "__init__" = some (.val (.builtin b.ini))) (hc : IniWay B kk p0 p1 p2 p3 p4) (n1 : B ≠ "__name__") (n2 : (B == ("__debug__" : Str)) = false) : FnOk P w K mg base CX0 1 fI fd ["self"] (spIni0 C) := by
  refine F.ok Sc (fun vs H Q E h => ?_) (fun cdv A outer s H vs Q E hr h => ?_)
  · obtain ⟨a, rfl, _⟩ := h
    rfl
  · obtain ⟨a, rfl, ea, q⟩ := h
    have v0 := pe_var (X := cxOf CX0 P w K mg base ["self"] qual scope fI cdv A outer s H E) (x := "self") (i := 0) (pos := p2) rfl (.inl l0) (by decide) (by decide)
    obtain ⟨pl, hc⟩ := hc (cxOf CX0 P w K mg base ["self"] qual scope fI cdv A outer s H E).env
    refine ⟨_, pss_one (ps_expr (pe_bi ok eB gB mB vV (pa_cons v0 (pa_cons pe_str pa_nil)) n1 n2 hc)), ?_⟩
    exact ⟨.ref a, rfl, a, C, _, rfl, by decide, T, ea, q⟩
end

/-! ### made -/
section
variable {X : Cx} {pins : List (Addr × Obj)} {σ : L2.St} {H : Hp} {s : Shared} {C fI : Addr} {b : Ba} {k : Nat} {fd : FuncData} {ps : List Str} {sp : Sp} {Q : VK} {rest us : List Value} {kw : List (Str × Value)} {vs : List V}
theorem ex_run (ok : BaOk b) (T : ExC X.K C b) (iC : findIn X.K (.ref C) "__init__" = some (some (.ref fI))) (tI : typeIn X.K (.ref fI) = some (.type "function")) (F1 : FnOk X.prog X.w X.K X.mg X.base CX0 k fI fd ps sp) (hr : Room (k + 1) X.A)
    (bind : ∀ (s : Shared) (a : Addr), X.K.In s.heap → BindsTo s fd ⟨.ref a :: rest, kw⟩ (ps.zip (.ref a :: us))) (I1 : Inv X pins σ H s) (r1 : Vals vs us) (hl : rest.length ≤ sizeLine)
    (q1 : ∀ a, H a = none → sp (.ref a :: vs) (upd H a (exo a C none)) (fun v H2 => v = .non ∧ Q (.ref a) H2) E0) : wpAny (model X.prog X.w) X.A (call (.ref C) rest kw) (EP X pins σ Q) X.xe s := by
  obtain ⟨nm, N, qn, bs, bm, hdct, sn, sub, ab, col, dd, k0, k1, k2, k3, k5, hC, hT⟩ := excInit_of I1.kIn T.ini
  obtain ⟨i, l, FB⟩ := ok.nf
  obtain ⟨hp, g, dr, tk, os⟩ := s
  have hsz : hp.objs.size ≤ hp.objs.size + 1 := Nat.le_succ _
  have hn : H (hp.objs.size + 1) = none := I1.hok.fresh hsz
  have hq := q1 (hp.objs.size + 1) hn
  have kk : ∀ b o, hp.get? b = some o → ((hp.push (kdv_tup rest)).push (exN C hp.objs.size)).get? b = some o := fun b o e => Heap.get?_push_of_some _ (Heap.get?_push_of_some _ e)
  have hget : ((hp.push (kdv_tup rest)).push (exN C hp.objs.size)).get? (hp.objs.size + 1) = some (exN C hp.objs.size) := by heap_get
  have I2 : Inv X pins σ (upd H (hp.objs.size + 1) (exo (hp.objs.size + 1) C none)) ⟨(hp.push (kdv_tup rest)).push (exN C hp.objs.size), g, dr, tk, os⟩ :=
    I1.laid (t' := tk) (a := hp.objs.size + 1) (o := exo (hp.objs.size + 1) C none) (h' := (hp.push (kdv_tup rest)).push (exN C hp.objs.size)) kk hsz (exo_ok hget)
  have r2 : Vals (V.ref (hp.objs.size + 1) :: vs) (Value.ref (hp.objs.size + 1) :: us) := .cons rfl r1
  refine wpAny_call (mk_call FB ((hT _).trans ok.nB) ((hT _).trans ok.nA) ((hT _).trans ok.nN) hC (looks_findIn I1.kIn iC) (fun self => bind_fn I1.kIn self tI) hl
    (codeAny_mono (F1.run _ X.stack _ _ ⟨Value.ref (hp.objs.size + 1) :: rest, kw⟩ (Value.ref (hp.objs.size + 1) :: us) _ _ E0 (hr.make C rest kw) (I2.env0.make C rest kw) (bind _ _ I2.kIn) r2 hq) fun r s' hq' => ?_))
  cases r with
  | error er => exact hq'.elim
  | ok fl =>
    cases fl with
    | ret u =>
      obtain ⟨v, H2, J, rv, ev, q2⟩ := I2.after hq'
      subst ev
      exact ⟨rv, .ref _, H2, J, rfl, q2⟩
    | next => exact False.elim hq'
    | brk => exact False.elim hq'
    | cont => exact False.elim hq'
end
end Nw

set_option Elab.async false
set_option linter.all false
set_option maxRecDepth 100000
set_option maxHeartbeats 4000000
namespace Nw
open PySem L2 PySem.Spec PyProof.Rows PySem.W Builtin.ObjectAttr

/-! ### an own exception class and its __init__, as they stand -/
inductive ExM (P : Program) (w : World) (K : Frag) (mg : Str → Option Value) (base : Heap) (x : Str) (C : Addr) : Option Str → Prop where
  | one {b : Ba} {fI : Addr} {fd : FuncData} {f : Str} : BaOk b → ExC K C b → mg x = some (.ref C) → findIn K (.ref C) "__init__" = some (some (.ref fI)) → typeIn K (.ref fI) = some (.type "function") →
      FnOk P w K mg base CX0 1 fI fd ["self", f] (spIni C f) → (∀ (s : Shared) (a : Addr) (u : Value), K.In s.heap → BindsTo s fd ⟨[.ref a, u], []⟩ [("self", .ref a), (f, u)]) →
      (∀ (s : Shared) (a : Addr) (u : Value), K.In s.heap → BindsTo s fd ⟨[.ref a], [(f, u)]⟩ [("self", .ref a), (f, u)]) → ExM P w K mg base x C (some f)
  | non {b : Ba} {fI : Addr} {fd : FuncData} : BaOk b → ExC K C b → mg x = some (.ref C) → findIn K (.ref C) "__init__" = some (some (.ref fI)) → typeIn K (.ref fI) = some (.type "function") →
      FnOk P w K mg base CX0 1 fI fd ["self"] (spIni0 C) → (∀ (s : Shared) (a : Addr), K.In s.heap → BindsTo s fd ⟨[.ref a], []⟩ [("self", .ref a)]) → ExM P w K mg base x C none
def tEx (C : Addr) (f : Str) (te : TE) : TE := fun σ H Q => te σ H fun v H1 => ∀ a dx, H1 a = none → H1 dx = none → dx ≠ a → Q (.ref a) (upd (upd H1 dx (exd dx [(f, v)])) a (exo a C (some dx)))
def tEx0 (C : Addr) : TE := fun σ H Q => ∀ a, H a = none → Q (.ref a) (upd H a (exo a C none))
def exQ (C : Addr) (f : Str) (Q : VK) : List V → Hp → Prop := fun zs H1 => match zs with
  | [v] => ∀ a dx, H1 a = none → H1 dx = none → dx ≠ a → Q (.ref a) (upd (upd H1 dx (exd dx [(f, v)])) a (exo a C (some dx)))
  | _ => False
theorem upd_swap {H : Hp} {a dx : Addr} {o1 o2 o3 : HO} (ne : dx ≠ a) : upd (upd (upd H a o1) dx o2) a o3 = upd (upd H dx o2) a o3 := by
  funext c
  by_cases e : c = a
  · rw [e, upd_same, upd_same]
  · rw [upd_ne e, upd_ne e]
    by_cases e2 : c = dx
    · rw [e2, upd_same, upd_same]
    · rw [upd_ne e2, upd_ne e2, upd_ne e]
section
variable {X : Cx} {C : Addr} {f x : Str} {e : Expr} {te : TE} {p pos : Pos}
/-- C(e) -/
theorem pe_ex1 (M : ExM X.prog X.w X.K X.mg X.base x C (some f)) (hr : Room 2 X.A) (hg : Gl X x) (he : PE X e te) (hdb : (x == ("__debug__" : Str)) = false)
    (hs : starEach [e] X.env = (false, eval e X.env) :: starEach [] X.env) : PE X (.Call (.Name x p) [e] [] pos) (tEx C f te) := by
  cases M with
  | @one b fI fd f ok T hm iC tI F1 b1 b2 =>
    refine ⟨fun pins s σ H Q I h => ?_⟩
    refine wpAny_Call_Name_kw (ld_glob I hg hm ?_ hdb)
    refine callWith_K (h₀ := X.base) I.ok.mod.kin T.kp ?_ hs (by rfl)
    rw [hs]
    show wpAny _ _ (spliced ((false, eval e X.env) :: backTo pos (starEach [] X.env))) _ _ s
    refine Calls.spliced_cons (thn (he.run pins s σ H _ I h) fun u s1 ⟨v, H1, I1, r1, q1⟩ => ?_)
    refine Calls.spliced_nil ⟨I1.kIn, ?_⟩
    refine ex_run (us := [u]) (vs := [v]) ok T iC tI F1 hr (fun s a k => b1 s a u k) I1 (.cons r1 .nil) (by show 1 ≤ sizeLine; rw [sizeLine_eq]; omega) fun a na => ?_
    refine ⟨a, v, rfl, upd_same, fun dx nd ne => ⟨rfl, ?_⟩⟩
    rw [upd_swap ne]
    rw [upd_ne ne] at nd
    exact q1 a dx na nd ne
/-- C(f = e) -/
theorem pe_exK {kp : Pos} (M : ExM X.prog X.w X.K X.mg X.base x C (some f)) (hr : Room 2 X.A) (hg : Gl X x) (he : PE X e te) (hdb : (x == ("__debug__" : Str)) = false) : PE X (.Call (.Name x p) [] [⟨some f, e, kp⟩] pos) (tEx C f te) := by
  cases M with
  | @one b fI fd f ok T hm iC tI F1 b1 b2 =>
    refine ⟨fun pins s σ H Q I h => ?_⟩
    refine wpAny_Call_Name_kw (ld_glob I hg hm ?_ hdb)
    refine callWith_KW0 (h₀ := X.base) I.ok.mod.kin T.kp (by rfl) ?_ (by rfl)
    refine thn ((pk_cons he pk_nil).run pos pins s σ H (exQ C f Q) I (show tCons te tNil σ H (exQ C f Q) from h)) fun ws s2 ⟨zs, H1, I1, rz, q1⟩ => ⟨I1.kIn, ?_⟩
    match zs, q1, rz with
    | [v], q1, rz =>
      cases rz with
      | @cons _ u _ _ r1 rr =>
        cases rr
        refine ex_run (rest := []) (us := [u]) (vs := [v]) ok T iC tI F1 hr (fun s a k => b2 s a u k) I1 (.cons r1 .nil) (by show 0 ≤ sizeLine; rw [sizeLine_eq]; omega) fun a na => ?_
        refine ⟨a, v, rfl, upd_same, fun dx nd ne => ⟨rfl, ?_⟩⟩
        rw [upd_swap ne]
        rw [upd_ne ne] at nd
        exact q1 a dx na nd ne
/-- C() -/
theorem pe_ex0 (M : ExM X.prog X.w X.K X.mg X.base x C none) (hr : Room 2 X.A) (hg : Gl X x) (hdb : (x == ("__debug__" : Str)) = false) : PE X (.Call (.Name x p) [] [] pos) (tEx0 C) := by
  cases M with
  | @non b fI fd ok T hm iC tI F1 b1 =>
    refine ⟨fun pins s σ H Q I h => ?_⟩
    refine wpAny_Call_Name_kw (ld_glob I hg hm ?_ hdb)
    refine callWith_KW0 (h₀ := X.base) (kws := []) I.ok.mod.kin T.kp (by rfl) ?_ (by rfl)
    refine thn (pk_nil.run pos pins s σ H (fun _ H1 => tEx0 C σ H1 Q) I h) fun ws s2 ⟨zs, H1, I1, rz, q1⟩ => ⟨I1.kIn, ?_⟩
    refine ex_run (rest := []) (us := []) (vs := []) ok T iC tI F1 hr (fun s a k => b1 s a k) I1 .nil (by show 0 ≤ sizeLine; rw [sizeLine_eq]; omega) fun a na => ?_
    exact ⟨a, rfl, upd_same, rfl, q1 a na⟩
/-- e.n -/
def tAt (K : Frag) (n : Str) (te : TE) : TE := fun σ H Q => te σ H fun x H1 => ∃ (a C dx : Addr) (fs : List (Str × V)) (v : V) (b : Ba), x = .ref a ∧ ExC K C b ∧ findIn K (.ref C) n = some none ∧ H1 a = some (exo a C (some dx)) ∧ H1 dx = some (exd dx fs) ∧ fs.lookup n = some v ∧ Q v H1
theorem pe_at {n : Str} (he : PE X e te) (hb : attributeBase e n X.env (eval e X.env) = eval e X.env) : PE X (.Attribute e n pos) (tAt X.K n te) := by
  refine ⟨fun pins s σ H Q I h => ?_⟩
  refine attr_of hb (thn (he.run pins s σ H _ I h) fun u s1 hh => ?_)
  obtain ⟨x, H1, I1, rx, a, C, dx, fs, v, b, ex, T, hno, ea, ed, l, q⟩ := hh
  subst ex
  obtain rfl : u = Value.ref a := rx
  obtain ⟨t0, ho⟩ := exo_at I1.hok ea
  obtain ⟨mA, hns, hr⟩ := exd_at I1.hok ed
  obtain ⟨od, hd, hl⟩ := lookIn_ns hns
  obtain ⟨u, hu, ru⟩ := RelO.some_of (v := v) (o := mA n) (by rw [← l]; exact hr n)
  have J : InstAt s1.heap a _ C (some od) := ⟨ho, rfl, rfl, hd⟩
  exact HandSPX.exc_get I1.kIn J T.ga T.gg T.ex (findObj_own T.dct hno rfl (by rw [hl, hu])) (handed_of ru) ⟨v, H1, I1.tok _, ru, q⟩
end

/-! ### isinstance of such -/
section
variable {prog : Program} {w : World} {A : Around} {E : Value → Shared → Prop} {s : Shared} {K : Frag} {x D : Addr} {ox : Obj} {od : Option Obj} {b : Ba}
theorem cls_ex {Q : Option Value → Shared → Prop} (T : ExC K D b) (X : K.In s.heap) (I : InstAt s.heap x ox D od) (h : Q (some (.ref D)) { s with toks := s.toks + 1 }) : wpAny (model prog w) A (getAttr? (.ref x) "__class__") Q E s := by
  have hf : findObj K D od "__class__" = some (.bind (.builtin "getset_descriptor.__get__") (.builtin "object.__class__")) := by
    obtain ⟨cd, hc, _⟩ := any_some T.dct
    unfold findObj
    rw [hc, Option.bind_some, T.ca, Option.bind_some]
    simp [T.cn, T.ct]
  obtain ⟨hp, g, d, t, os⟩ := s
  have y0 := I.type (M := model prog w)
  have y1 := looks_findIn (M := model prog w) X T.ga
  have y2 := looks_findIn (M := model prog w) X T.gg
  have y3 := looks_find (M := model prog w) X I hf
  have y4 : Looks (model prog w) hp (isInstance (.ref x) (.type "BaseException")) true := y0.andThen (looks_subIn X T.ex)
  have z0 : (false && onTheHeap (Value.builtin "BaseException.__getattribute__")) = false := rfl
  have z2 : (Value.builtin "BaseException.__getattribute__" == Value.builtin "object.__getattribute__") = false := by decide +kernel
  have z1 : (onTheHeap (Value.ref D) && Value.builtin "BaseException.__getattribute__" == Value.builtin "object.__getattribute__") = false := by rw [z2]; rfl
  unfold getAttr? getAttrBy? getAttrBy
  refine wpAny_bind (wpAny_mkText (wpAny_bind (wpAny_attempt (wpAny_holding (wpAny_bind (y0.at (wpAny_bind (y1.at ?_))))))))
  show wpAny _ _ (if (onTheHeap (Value.ref D) && Value.builtin "BaseException.__getattribute__" == Value.builtin "object.__getattribute__") = true then _ else _) _ _ _
  rw [z1, if_neg Bool.false_ne_true]
  unfold getAttrByItsOwn hookBefore
  refine wpAny_bind ?_
  rw [if_pos (show onTheHeap (Value.ref D) = true from rfl)]
  refine y2.at ?_
  refine wpAny_bind (wpAny_attempt (wpAny_holding ?_))
  unfold callGetattribute
  rw [z0, if_neg Bool.false_ne_true]
  unfold boundAndCalled
  rw [PySem.F.excAttr_ValueError.ga.bind (.ref x)]
  refine wpAny_bind (wpAny_pure ?_)
  show wpAny _ _ (call (.builtin "BaseException.__getattribute__") [.ref x, .str "__class__" t]) _ _ _
  refine wpAny_call (codeAny_call_builtin PySem.F.excAttr_ValueError.ga.plain PySem.F.entry_bexc_ga ?_)
  refine @check_slot (model prog w) _ _ ⟨hp, g, d, t + 1, os⟩ "BaseException.__getattribute__" "BaseException" "__getattribute__" (.ref x) [.str "__class__" t] [] _ (by decide +kernel) (by decide +kernel) y4 (PySem.F.args_bexc_ga (.ref x) (.str "__class__" t)) ?_
  unfold Builtin.«object.__getattribute__»
  refine wpAny_bind (wpAny_of_eq (a := ((Value.ref x : Value), [Value.str "__class__" t])) (by first | rfl | (simp only [slotArgs]; rfl)) ?_)
  refine wpAny_bind (wpAny_pure (wpAny_bind (y0.at (wpAny_bind (y3.at ?_)))))
  show wpAny _ _ (holding [Value.builtin "object.__class__"] (call (.builtin "getset_descriptor.__get__") [.builtin "object.__class__", .ref x, .ref D]) >>= ret) _ _ _
  refine wpAny_bind (wpAny_holding (wpAny_call (class_get (s := ⟨hp, g, d, t + 1, os⟩) (ox := ox) (od := od) X I T.mo ?_)))
  refine wpAny_pure ?_
  show wpAny _ _ (handedOut (.ref D)) _ _ _
  rw [handedOut_of (v := .ref D) rfl]
  first
    | exact wpAny_pure (wpAny_pure h)
    | exact wpAny_pure h
    | exact wpAny_pure (wpAny_bind (wpAny_pure (wpAny_pure h)))
theorem kitx_ex (T : ExC K D b) : KitX K (.ref x) (.ref D) (fun h => InstAt h x ox D od) := by
  obtain ⟨cdD, hcD, _⟩ := any_some T.dct
  refine { ty := fun _ _ _ I => I.type, it := fun _ _ X _ => ?_, ne := fun h tp dd its n sl X htp => ?_, ca := fun X I k => cls_ex T X I k }
  · unfold clsIn at hcD
    split at hcD
    · rename_i c' d' cd' sl' ho
      intro A' Q' E' s' k q
      unfold isType loadHead
      exact wpAny_bind (wpAny_loadPart (k _ _ (X _ _ ho)) (wpAny_pure q))
    · cases hcD
  · refine Bool.eq_false_iff.mpr fun q => ?_
    have e : D = tp := Value.ref.inj (beq_iff_eq.mp q)
    subst e
    unfold clsIn at hcD
    split at hcD
    · rename_i c' d' cd' sl' ho
      have z := (X _ _ ho).symm.trans htp
      cases z
    · cases hcD
end
def rIsX (K : Frag) : List V → Hp → VK → Prop := fun xs H Q => ∃ (a C : Addr) (dx : Option Addr) (b : Ba) (fs : List (Str × V)) (c : V) (u : Value) (r : Bool), xs = [.ref a, c] ∧ ExC K C b ∧ H a = some (exo a C dx) ∧ (∀ x, dx = some x → H x = some (exd x fs)) ∧ ClsV c u ∧ kitOne K (.ref C) u = some r ∧ Q (.bl r) H
theorem call_isX {X : Cx} : CallR X (.builtin "isinstance") (rIsX X.K) := by
  intro pins s σ H xs us Q I r h
  obtain ⟨a, C, dx, b, fs, c, u, rr, rfl, T, ea, ed, k, e, q⟩ := h
  obtain ⟨u1, u2, rfl, r1, r2⟩ := vals2 r
  have e2 := k.eq r2
  subst e2
  obtain rfl : u1 = Value.ref a := r1
  obtain ⟨t0, ho⟩ := exo_at I.hok ea
  cases dx with
  | none =>
    have J : InstAt s.heap a _ C none := ⟨ho, rfl, rfl, trivial⟩
    exact kia_one (kitx_ex T) I.kIn J e (fun z => nomatch z) fun tk => ⟨.bl rr, H, I.tok tk, rfl, q⟩
  | some x =>
    obtain ⟨mA, hns, hr⟩ := exd_at I.hok (ed x rfl)
    obtain ⟨od, hd, hl⟩ := lookIn_ns hns
    have J : InstAt s.heap a _ C (some od) := ⟨ho, rfl, rfl, hd⟩
    exact kia_one (kitx_ex T) I.kIn J e (fun z => nomatch z) fun tk => ⟨.bl rr, H, I.tok tk, rfl, q⟩
end Nw

set_option Elab.async false
set_option linter.all false
set_option maxRecDepth 100000
set_option maxHeartbeats 4000000
namespace Nw
open PySem L2

/-! ### places in a tree -/
inductive Step where
  | ix (k : Key) | at (f : Str)
def valG {α : Type} : List (Key × α) → Key → Option α
  | [], _ => none
  | (k', x) :: r, k => if k' = k then some x else valG r k
/-- at a key that is there -/
def repG {α : Type} : List (Key × α) → Key → α → List (Key × α)
  | [], _, _ => []
  | (k', x) :: r, k, y => if k' = k then (k', y) :: r else (k', x) :: repG r k y
def getP : T → List Step → Option T
  | t, [] => some t
  | .l ts, .ix (.inl z) :: r => match atI ts z with
    | some t => getP t r
    | none => none
  | .m kvs, .ix k :: r => match valG kvs k with
    | some t => getP t r
    | none => none
  | _, _ :: _ => none
def putP : T → List Step → T → T
  | _, [], u => u
  | .l ts, .ix (.inl z) :: r, u => match ixN ts.length z with
    | some j => (match ts[j]? with
      | some t => .l (ts.set j (putP t r u))
      | none => .l ts)
    | none => .l ts
  | .m kvs, .ix k :: r, u => match valG kvs k with
    | some t => .m (repG kvs k (putP t r u))
    | none => .m kvs
  | t, _ :: _, _ => t
theorem getP_m (kvs : List (Key × T)) (k : Key) (r : List Step) : getP (.m kvs) (.ix k :: r) = (match valG kvs k with | some t => getP t r | none => none) := by cases k <;> rfl
theorem putP_m (kvs : List (Key × T)) (k : Key) (r : List Step) (u : T) : putP (.m kvs) (.ix k :: r) u = (match valG kvs k with | some t => .m (repG kvs k (putP t r u)) | none => .m kvs) := by cases k <;> rfl
section
variable {K : PySem.W.Frag} {B : List V} {I I' H H' : Hp}
theorem TRs.split : ∀ {vs : List V} {ts : List T} {fp : List Addr} {j : Nat} {t : T}, TRs K B I H vs ts fp → ts[j]? = some t →
    ∃ vl v vr tl tr fl fj fr, vs = vl ++ v :: vr ∧ ts = tl ++ t :: tr ∧ tl.length = j ∧ vl.length = j ∧ fp = fl ++ (fj ++ fr) ∧ TRs K B I H vl tl fl ∧ TR K B I H v t fj ∧ TRs K B I H vr tr fr
  | _, _, _, _, _, .nil, e => by simp at e
  | _, _, _, 0, _, .cons (fp := fp) (fq := fq) h r, e => by
    simp at e
    subst e
    exact ⟨[], _, _, [], _, [], fp, fq, rfl, rfl, rfl, rfl, rfl, .nil, h, r⟩
  | _, _, _, j + 1, t, .cons (v := v0) (t := t0) (fp := fp) h r, e => by
    obtain ⟨vl, v, vr, tl, tr, fl, fj, fr, rfl, rfl, h1, h2, rfl, h4, h5, h6⟩ := TRs.split (j := j) (t := t) r (by simpa using e)
    refine ⟨v0 :: vl, v, vr, t0 :: tl, tr, fp ++ fl, fj, fr, rfl, rfl, by simp [h1], by simp [h2], by simp, ?_, h5, h6⟩
    exact .cons h h4
theorem TRs.join {vl : List V} {v : V} {vr : List V} {tl : List T} {t : T} {tr : List T} {fl fj fr : List Addr} (h1 : TRs K B I H vl tl fl) (h2 : TR K B I H v t fj) (h3 : TRs K B I H vr tr fr) : TRs K B I H (vl ++ v :: vr) (tl ++ t :: tr) (fl ++ (fj ++ fr)) :=
  h1.append (.cons h2 h3)
theorem TRk.split : ∀ {vs : List (Key × V)} {ts : List (Key × T)} {fp : List Addr} {k : Key} {t : T}, TRk K B I H vs ts fp → valG ts k = some t →
    ∃ vl v vr tl tr fl fj fr, vs = vl ++ (k, v) :: vr ∧ ts = tl ++ (k, t) :: tr ∧ (∀ p ∈ tl, p.1 ≠ k) ∧ (∀ p ∈ vl, p.1 ≠ k) ∧ fp = fl ++ (fj ++ fr) ∧ TRk K B I H vl tl fl ∧ TR K B I H v t fj ∧ TRk K B I H vr tr fr
  | _, _, _, _, _, .nil, e => by cases e
  | _, _, _, k, t, .cons (k := k0) (v := v0) (t := t0) (fp := fp) (fq := fq) h r, e => by
    unfold valG at e
    by_cases hk : k0 = k
    · rw [if_pos hk] at e
      cases e
      subst hk
      exact ⟨[], _, _, [], _, [], fp, fq, rfl, rfl, by simp, by simp, rfl, .nil, h, r⟩
    · rw [if_neg hk] at e
      obtain ⟨vl, v, vr, tl, tr, fl, fj, fr, rfl, rfl, h1, h1', rfl, h4, h5, h6⟩ := TRk.split (k := k) (t := t) r e
      refine ⟨(k0, v0) :: vl, v, vr, (k0, t0) :: tl, tr, fp ++ fl, fj, fr, rfl, rfl, ?_, ?_, by simp, .cons h h4, h5, h6⟩
      · intro p hp
        rcases List.mem_cons.mp hp with rfl | hp
        · exact hk
        · exact h1 p hp
      · intro p hp
        rcases List.mem_cons.mp hp with rfl | hp
        · exact hk
        · exact h1' p hp
theorem TRk.append : ∀ {vs ws : List (Key × V)} {ts us : List (Key × T)} {fp fq : List Addr}, TRk K B I H vs ts fp → TRk K B I H ws us fq → TRk K B I H (vs ++ ws) (ts ++ us) (fp ++ fq)
  | _, _, _, _, _, _, .nil, s => s
  | _, _, _, _, _, _, .cons r t, s => by
    rw [List.append_assoc]
    exact .cons r (TRk.append t s)
theorem TRk.join {vl : List (Key × V)} {v : V} {vr : List (Key × V)} {tl : List (Key × T)} {k : Key} {t : T} {tr : List (Key × T)} {fl fj fr : List Addr} (h1 : TRk K B I H vl tl fl) (h2 : TR K B I H v t fj) (h3 : TRk K B I H vr tr fr) : TRk K B I H (vl ++ (k, v) :: vr) (tl ++ (k, t) :: tr) (fl ++ (fj ++ fr)) :=
  h1.append (.cons h2 h3)
theorem repG_app {α : Type} {k : Key} {y x : α} {tr : List (Key × α)} : ∀ {tl : List (Key × α)}, (∀ p ∈ tl, p.1 ≠ k) → repG (tl ++ (k, x) :: tr) k y = tl ++ (k, y) :: tr
  | [], _ => by show (if k = k then _ else _) = _; rw [if_pos rfl]; rfl
  | (k0, z) :: tl, h => by
    have ih := repG_app (k := k) (x := x) (y := y) (tr := tr) (tl := tl) fun p hp => h p (by simp [hp])
    show (if k0 = k then _ else (k0, z) :: repG (tl ++ (k, x) :: tr) k y) = _
    rw [if_neg (h (k0, z) (by simp)), ih]
    rfl
theorem set_app {α : Type} {x y : α} {tr : List α} : ∀ {tl : List α} {j : Nat}, tl.length = j → (tl ++ x :: tr).set j y = tl ++ y :: tr := fun {tl j} h => by
  subst h
  simp
/-- fj is replaced by fq within fl ++ (fj ++ fr) -/
theorem nodup_mid {fl fj fr fq f1 f2 : List Addr} (nd : (fl ++ (fj ++ fr)).Nodup) (hq : fq.Nodup) (h1 : ∀ a ∈ f1, a ∈ fj) (h2 : ∀ a ∈ f2, a ∈ f1 ∨ a ∉ fl ++ (fj ++ fr)) (h : ∀ a ∈ fq, a ∈ f2 ∨ (a ∈ fj ∧ a ∉ f1)) :
    (fl ++ (fq ++ fr)).Nodup ∧ ∀ a ∈ fl ++ (fq ++ fr), a ∈ f2 ∨ (a ∈ fl ++ (fj ++ fr) ∧ a ∉ f1) := by
  have nd' := nd
  simp only [List.nodup_append, List.mem_append] at nd'
  obtain ⟨n1, ⟨n2, n3, n4⟩, n5⟩ := nd'
  have key : ∀ a ∈ fq, a ∈ fj ∨ a ∉ fl ++ (fj ++ fr) := fun a ha => by
    rcases h a ha with q | q
    · rcases h2 a q with z | z
      · exact .inl (h1 a z)
      · exact .inr z
    · exact .inl q.1
  refine ⟨?_, fun a ha => ?_⟩
  · simp only [List.nodup_append, List.mem_append]
    refine ⟨n1, ⟨hq, n3, fun a ha b hb e => ?_⟩, fun a ha b hb e => ?_⟩
    · subst e
      rcases key a ha with z | z
      · exact n4 a z a hb rfl
      · exact z (by simp [hb])
    · subst e
      rcases hb with hb | hb
      · rcases key a hb with z | z
        · exact n5 a ha a (.inl z) rfl
        · exact z (by simp [ha])
      · exact n5 a ha a (.inr hb) rfl
  · simp only [List.mem_append] at ha ⊢
    rcases ha with ha | ha | ha
    · exact .inr ⟨.inl ha, fun z => n5 a ha a (.inl (h1 a z)) rfl⟩
    · rcases h a ha with q | q
      · exact .inl q
      · exact .inr ⟨.inr (.inl q.1), q.2⟩
    · exact .inr ⟨.inr (.inr ha), fun z => n4 a (h1 a z) a ha rfl⟩
/-- the value at a place -/
def pathV (H : Hp) : V → List Step → Option V
  | v, [] => some v
  | .ref a, .ix k :: r => match H a with
    | some (.lst vs) => (match k with
      | .inl z => (match atI vs z with | some v => pathV H v r | none => none)
      | .inr _ => none)
    | some (.dK kvs) => (match valV kvs k with | some v => pathV H v r | none => none)
    | _ => none
  | _, _ => none
theorem pathV_nil (v : V) : pathV H v [] = some v := by cases v <;> rfl
theorem pathV_l {a : Addr} {vs : List V} {z : Int} {r : List Step} {v : V} (h : H a = some (.lst vs)) (e : atI vs z = some v) : pathV H (.ref a) (.ix (.inl z) :: r) = pathV H v r := by
  show (match H a with
    | some (.lst vs) => (match atI vs z with | some v => pathV H v r | none => none)
    | some (.dK kvs) => (match valV kvs (.inl z : Key) with | some v => pathV H v r | none => none)
    | _ => none) = _
  rw [h]
  simp only [e]
theorem pathV_m {a : Addr} {vs : List (Key × V)} {k : Key} {r : List Step} {v : V} (h : H a = some (.dK vs)) (e : valV vs k = some v) : pathV H (.ref a) (.ix k :: r) = pathV H v r := by
  cases k with
  | inl z =>
    show (match H a with
    | some (.lst vs) => (match atI vs z with | some v => pathV H v r | none => none)
    | some (.dK kvs) => (match valV kvs (.inl z : Key) with | some v => pathV H v r | none => none)
    | _ => none) = _
    rw [h]
    simp only [e]
  | inr z =>
    show (match H a with
    | some (.lst vs) => none
    | some (.dK kvs) => (match valV kvs (.inr z : Key) with | some v => pathV H v r | none => none)
    | _ => none) = _
    rw [h]
    simp only [e]
theorem valV_app {k : Key} {v : V} {vr : List (Key × V)} : ∀ {vl : List (Key × V)}, (∀ p ∈ vl, p.1 ≠ k) → valV (vl ++ (k, v) :: vr) k = some v
  | [], _ => by unfold valV; simp
  | (k0, z) :: vl, h => by
    have ih := valV_app (k := k) (v := v) (vr := vr) (vl := vl) fun p hp => h p (by simp [hp])
    unfold valV at ih ⊢
    rw [List.cons_append, List.find?_cons]
    simp only [decide_eq_false (h (k0, z) (by simp))]
    exact ih
/-- what stands at a place of a tree, and what comes of it when another tree is put there -/
theorem tr_focus : ∀ {st : List Step} {v : V} {t : T} {fp : List Addr} {t1 : T}, TR K B I H v t fp → fp.Nodup → getP t st = some t1 →
    ∃ v1 f1, pathV H v st = some v1 ∧ TR K B I H v1 t1 f1 ∧ f1.Nodup ∧ (∀ a ∈ f1, a ∈ fp) ∧ ∀ (I' H' : Hp) (t2 : T) (f2 : List Addr), Same I I' → (∀ a ∈ fp, a ∉ f1 → ∀ o, H a = some o → H' a = some o) → TR K B I' H' v1 t2 f2 → f2.Nodup → (∀ a ∈ f2, a ∈ f1 ∨ a ∉ fp) →
      ∃ fq, TR K B I' H' v (putP t st t2) fq ∧ fq.Nodup ∧ ∀ a ∈ fq, a ∈ f2 ∨ (a ∈ fp ∧ a ∉ f1)
  | [], v, t, fp, t1, h, nd, e => by
    cases t <;> (cases e; exact ⟨v, fp, pathV_nil v, h, nd, fun a ha => ha, fun I' H' t2 f2 _ _ h2 n2 _ => ⟨f2, h2, n2, fun a ha => .inl ha⟩⟩)
  | .ix k :: r, v, .d d, fp, t1, h, nd, e => by cases k <;> cases e
  | .ix k :: r, v, .p n, fp, t1, h, nd, e => by cases k <;> cases e
  | .at f :: r, v, .p n, fp, t1, h, nd, e => by cases e
  | .at f :: r, v, .d d, fp, t1, h, nd, e => by cases e
  | .at f :: r, v, .l ts, fp, t1, h, nd, e => by cases e
  | .at f :: r, v, .m ts, fp, t1, h, nd, e => by cases e
  | .at f :: r, v, .o c fs, fp, t1, h, nd, e => by cases e
  | .ix k :: r, v, .o c fs, fp, t1, h, nd, e => by cases h
  | .ix (.inr x) :: r, v, .l ts, fp, t1, h, nd, e => by cases e
  | .ix (.inl z) :: r, v, .l ts, fp, t1, h, nd, e => by
    cases h with | @l a vs _ fp h1 h2 =>
    unfold getP at e
    cases hz : ixN ts.length z with
    | none => unfold atI at e; rw [hz] at e; cases e
    | some j =>
      cases hj : ts[j]? with
      | none => unfold atI at e; rw [hz, Option.bind_some, hj] at e; cases e
      | some t0 =>
        unfold atI at e
        rw [hz, Option.bind_some, hj] at e
        obtain ⟨vl, v0, vr, tl, tr, fl, fj, fr, rfl, rfl, l1, l2, rfl, g1, g2, g3⟩ := h2.split hj
        have ndt : (fl ++ (fj ++ fr)).Nodup := (List.nodup_cons.mp nd).2
        have ha : a ∉ fl ++ (fj ++ fr) := (List.nodup_cons.mp nd).1
        have ndj : fj.Nodup := (List.nodup_append.mp (List.nodup_append.mp ndt).2.1).1
        obtain ⟨v1, f1, k0, k1, k2, k3, k4⟩ := tr_focus (st := r) g2 ndj e
        refine ⟨v1, f1, by rw [pathV_l (v := v0) h1 (by have hl := h2.len; unfold atI; rw [hl, hz, Option.bind_some, ← l2]; simp)]; exact k0, k1, k2, fun b hb => by simp [k3 b hb], fun I' H' t2 f2 hI hk q1 q2 q3 => ?_⟩
        have haf1 : a ∉ f1 := fun z => ha (by simp [k3 a z])
        have q3' : ∀ b ∈ f2, b ∈ f1 ∨ b ∉ fl ++ (fj ++ fr) := fun b hb => by
          rcases q3 b hb with z | z
          · exact .inl z
          · exact .inr fun y => z (List.mem_cons_of_mem _ y)
        obtain ⟨fq, m1, m2, m3⟩ := k4 I' H' t2 f2 hI (fun b hb => hk b (by simp [hb])) q1 q2 (fun b hb => by
          rcases q3' b hb with z | z
          · exact .inl z
          · exact .inr fun y => z (by simp [y]))
        obtain ⟨n1, n2⟩ := nodup_mid ndt m2 k3 q3' m3
        have hun : ∀ b ∈ fl ++ fr, b ∉ f1 := fun b hb z => by
          have ndt' := ndt
          simp only [List.nodup_append, List.mem_append] at ndt'
          obtain ⟨_, ⟨_, _, n4⟩, n5⟩ := ndt'
          rcases List.mem_append.mp hb with hb | hb
          · exact n5 b hb b (.inl (k3 b z)) rfl
          · exact n4 b (k3 b z) b hb rfl
        have e2 : putP (.l (tl ++ t0 :: tr)) (.ix (.inl z) :: r) t2 = .l (tl ++ putP t0 r t2 :: tr) := by
          show (match ixN (tl ++ t0 :: tr).length z with | some j => (match (tl ++ t0 :: tr)[j]? with | some t => T.l ((tl ++ t0 :: tr).set j (putP t r t2)) | none => .l (tl ++ t0 :: tr)) | none => .l (tl ++ t0 :: tr)) = _
          rw [hz]
          show (match (tl ++ t0 :: tr)[j]? with | some t => T.l ((tl ++ t0 :: tr).set j (putP t r t2)) | none => .l (tl ++ t0 :: tr)) = _
          rw [hj]
          show T.l ((tl ++ t0 :: tr).set j (putP t0 r t2)) = _
          rw [set_app l1]
        rw [e2]
        refine ⟨a :: (fl ++ (fq ++ fr)), .l (hk a (by simp) haf1 _ h1) ((g1.mono hI fun b hb => hk b (by simp [hb]) (hun b (by simp [hb]))).join m1 (g3.mono hI fun b hb => hk b (by simp [hb]) (hun b (by simp [hb])))), List.nodup_cons.mpr ⟨fun z => ?_, n1⟩, fun b hb => ?_⟩
        · rcases n2 a z with y | y
          · rcases q3 a y with w | w
            · exact haf1 w
            · exact w (by simp)
          · exact ha y.1
        · rcases List.mem_cons.mp hb with rfl | hb
          · exact .inr ⟨by simp, haf1⟩
          · rcases n2 b hb with y | y
            · exact .inl y
            · exact .inr ⟨List.mem_cons_of_mem _ y.1, y.2⟩
  | .ix k :: r, v, .m ts, fp, t1, h, nd, e => by
    cases h with | @m a vs _ fp h1 h2 =>
    rw [getP_m] at e
    cases hj : valG ts k with
    | none => rw [hj] at e; cases e
    | some t0 =>
      rw [hj] at e
      obtain ⟨vl, v0, vr, tl, tr, fl, fj, fr, rfl, rfl, l1, lv, rfl, g1, g2, g3⟩ := h2.split hj
      have ndt : (fl ++ (fj ++ fr)).Nodup := (List.nodup_cons.mp nd).2
      have ha : a ∉ fl ++ (fj ++ fr) := (List.nodup_cons.mp nd).1
      have ndj : fj.Nodup := (List.nodup_append.mp (List.nodup_append.mp ndt).2.1).1
      obtain ⟨v1, f1, k0, k1, k2, k3, k4⟩ := tr_focus (st := r) g2 ndj e
      refine ⟨v1, f1, by rw [pathV_m h1 (valV_app lv)]; exact k0, k1, k2, fun b hb => by simp [k3 b hb], fun I' H' t2 f2 hI hk q1 q2 q3 => ?_⟩
      have haf1 : a ∉ f1 := fun z => ha (by simp [k3 a z])
      have q3' : ∀ b ∈ f2, b ∈ f1 ∨ b ∉ fl ++ (fj ++ fr) := fun b hb => by
        rcases q3 b hb with z | z
        · exact .inl z
        · exact .inr fun y => z (List.mem_cons_of_mem _ y)
      obtain ⟨fq, m1, m2, m3⟩ := k4 I' H' t2 f2 hI (fun b hb => hk b (by simp [hb])) q1 q2 (fun b hb => by
        rcases q3' b hb with z | z
        · exact .inl z
        · exact .inr fun y => z (by simp [y]))
      obtain ⟨n1, n2⟩ := nodup_mid ndt m2 k3 q3' m3
      have hun : ∀ b ∈ fl ++ fr, b ∉ f1 := fun b hb z => by
        have ndt' := ndt
        simp only [List.nodup_append, List.mem_append] at ndt'
        obtain ⟨_, ⟨_, _, n4⟩, n5⟩ := ndt'
        rcases List.mem_append.mp hb with hb | hb
        · exact n5 b hb b (.inl (k3 b z)) rfl
        · exact n4 b (k3 b z) b hb rfl
      have e2 : putP (.m (tl ++ (k, t0) :: tr)) (.ix k :: r) t2 = .m (tl ++ (k, putP t0 r t2) :: tr) := by
        rw [putP_m, hj]
        show T.m (repG (tl ++ (k, t0) :: tr) k (putP t0 r t2)) = _
        rw [repG_app l1]
      rw [e2]
      refine ⟨a :: (fl ++ (fq ++ fr)), .m (hk a (by simp) haf1 _ h1) ((g1.mono hI fun b hb => hk b (by simp [hb]) (hun b (by simp [hb]))).join m1 (g3.mono hI fun b hb => hk b (by simp [hb]) (hun b (by simp [hb])))), List.nodup_cons.mpr ⟨fun z => ?_, n1⟩, fun b hb => ?_⟩
      · rcases n2 a z with y | y
        · rcases q3 a y with w | w
          · exact haf1 w
          · exact w (by simp)
        · exact ha y.1
      · rcases List.mem_cons.mp hb with rfl | hb
        · exact .inr ⟨by simp, haf1⟩
        · rcases n2 b hb with y | y
          · exact .inl y
          · exact .inr ⟨List.mem_cons_of_mem _ y.1, y.2⟩
end
end Nw

set_option Elab.async false
set_option linter.all false
set_option maxRecDepth 100000
set_option maxHeartbeats 4000000
namespace Nw
open PySem L2

/-! ### a def's run -/
/-- a slot: nothing known; a tree; a tree that is only looked at; a tree that was handed in -/
inductive Sl where
  | un | v (t : T) | lk (t : T) | bor (n : Nat)
structure S where
  g : List Sl
  b : List (Option T)
/-- what stood at the start; what was handed in, its objects; what is held by nobody as yet -/
structure Fx where
  I0 : Hp
  H0 : Hp
  bs : List V
  bf : List Addr
  ts : List (V × T)
inductive Pl where
  | s (i : Nat) | c (n : Nat) | t (k : Nat)
  deriving DecidableEq
def Holds (F : Fx) (σ : St) (s : S) : Pl → V → T → Prop
  | .s i, v, t => σ[i]? = some (some v) ∧ s.g[i]? = some (.v t)
  | .c n, v, t => F.bs[n]? = some v ∧ s.b[n]? = some (some t)
  | .t k, v, t => F.ts[k]? = some (v, t)
structure RelO (K : PySem.W.Frag) (F : Fx) (I H : Hp) (σ : St) (s : S) (ow : Addr → Option Pl) : Prop where
  le : Same I H
  le0 : Same F.I0 I
  keep : ∀ (a : Addr) (o : HO), a ∉ F.bf → F.H0 a = some o → H a = some o
  new : ∀ (a : Addr) (o : HO), F.H0 a = some o → F.I0 a = none → a ∉ F.bf → I a = none
  hold : ∀ (p : Pl) (v : V) (t : T), Holds F σ s p v t → ∃ fp, TR K F.bs I H v t fp ∧ fp.Nodup ∧ ∀ a ∈ fp, ow a = some p
  own : ∀ (a : Addr) (p : Pl), ow a = some p → I a = none ∧ (F.H0 a = none ∨ a ∈ F.bf)
  liv : ∀ (a : Addr) (p : Pl), ow a = some p → ∃ o, H a = some o
  val : ∀ (i : Nat) (t : T), s.g[i]? = some (.v t) → ∃ v, σ[i]? = some (some v)
  lk : ∀ (i : Nat) (t : T), s.g[i]? = some (.lk t) → ∃ v fp, σ[i]? = some (some v) ∧ TR K F.bs I H v t fp ∧ fp.Nodup ∧ ∀ a ∈ fp, I a = none ∧ F.I0 a = none ∧ (∃ o, F.H0 a = some o) ∧ a ∉ F.bf
  bor : ∀ (i n : Nat), s.g[i]? = some (.bor n) → ∃ v, σ[i]? = some (some v) ∧ F.bs[n]? = some v
  len : s.g.length = σ.length
  blen : s.b.length = F.bs.length
def Rel (K : PySem.W.Frag) (F : Fx) (I H : Hp) (σ : St) (s : S) : Prop := ∃ ow, RelO K F I H σ s ow
theorem Rel.le {K : PySem.W.Frag} {F : Fx} {I H : Hp} {σ : St} {s : S} (R : Rel K F I H σ s) : Same I H := let ⟨_, R⟩ := R; R.le
theorem Rel.le0 {K : PySem.W.Frag} {F : Fx} {I H : Hp} {σ : St} {s : S} (R : Rel K F I H σ s) : Same F.I0 I := let ⟨_, R⟩ := R; R.le0
theorem Rel.keep {K : PySem.W.Frag} {F : Fx} {I H : Hp} {σ : St} {s : S} (R : Rel K F I H σ s) : ∀ (a : Addr) (o : HO), a ∉ F.bf → F.H0 a = some o → H a = some o := let ⟨_, R⟩ := R; R.keep
theorem Rel.new {K : PySem.W.Frag} {F : Fx} {I H : Hp} {σ : St} {s : S} (R : Rel K F I H σ s) : ∀ (a : Addr) (o : HO), F.H0 a = some o → F.I0 a = none → a ∉ F.bf → I a = none := let ⟨_, R⟩ := R; R.new
theorem Rel.val {K : PySem.W.Frag} {F : Fx} {I H : Hp} {σ : St} {s : S} (R : Rel K F I H σ s) : ∀ (i : Nat) (t : T), s.g[i]? = some (.v t) → ∃ v, σ[i]? = some (some v) := let ⟨_, R⟩ := R; R.val
theorem Rel.bor {K : PySem.W.Frag} {F : Fx} {I H : Hp} {σ : St} {s : S} (R : Rel K F I H σ s) : ∀ (i n : Nat), s.g[i]? = some (.bor n) → ∃ v, σ[i]? = some (some v) ∧ F.bs[n]? = some v := let ⟨_, R⟩ := R; R.bor
theorem Rel.len {K : PySem.W.Frag} {F : Fx} {I H : Hp} {σ : St} {s : S} (R : Rel K F I H σ s) : s.g.length = σ.length := let ⟨_, R⟩ := R; R.len
theorem Rel.blen {K : PySem.W.Frag} {F : Fx} {I H : Hp} {σ : St} {s : S} (R : Rel K F I H σ s) : s.b.length = F.bs.length := let ⟨_, R⟩ := R; R.blen
theorem Rel.hold {K : PySem.W.Frag} {F : Fx} {I H : Hp} {σ : St} {s : S} (R : Rel K F I H σ s) {p : Pl} {v : V} {t : T} (h : Holds F σ s p v t) : ∃ fp, TR K F.bs I H v t fp ∧ fp.Nodup ∧ ∀ a ∈ fp, I a = none ∧ (F.H0 a = none ∨ a ∈ F.bf) := by
  obtain ⟨ow, R⟩ := R
  obtain ⟨fp, h1, h2, h3⟩ := R.hold p v t h
  exact ⟨fp, h1, h2, fun a ha => R.own a p (h3 a ha)⟩
def Fx.push (F : Fx) (v : V) (t : T) : Fx := { F with ts := F.ts ++ [(v, t)] }

section
variable {K : PySem.W.Frag} {F F' : Fx} {I I' H H' : Hp} {σ σ' : St} {s s' : S} {ow : Addr → Option Pl}
/-- the same start -/
structure Fx.Like (F F' : Fx) : Prop where
  i : F'.I0 = F.I0
  h : F'.H0 = F.H0
  b : F'.bs = F.bs
  f : F'.bf = F.bf
theorem like_refl : Fx.Like F F := ⟨rfl, rfl, rfl, rfl⟩
theorem like_push {v : V} {t : T} : Fx.Like F (F.push v t) := ⟨rfl, rfl, rfl, rfl⟩
theorem like_pop {v : V} {t : T} : Fx.Like (F.push v t) F := ⟨rfl, rfl, rfl, rfl⟩
/-- one place takes a new tree; some others give theirs up -/
theorem RelO.put (R : RelO K F I H σ s ow) {q : Pl} {fp : List Addr} {cs : Pl → Prop} (L : Fx.Like F F') (hI : Same I I') (hH : Same I' H')
    (cI : ∀ (a : Addr) (o : HO), I' a = some o → I a = some o ∨ F.H0 a = none ∨ a ∈ F.bf) (cH : ∀ (a : Addr) (o : HO), F.H0 a = some o → a ∉ F.bf → H a = some o → H' a = some o)
    (hold : ∀ r v t, Holds F' σ' s' r v t → (r = q ∧ TR K F.bs I' H' v t fp) ∨ (r ≠ q ∧ ¬ cs r ∧ Holds F σ s r v t)) (nd : fp.Nodup)
    (hfp : ∀ a ∈ fp, I' a = none ∧ (F.H0 a = none ∨ a ∈ F.bf) ∧ (∃ o, H' a = some o) ∧ ∀ p, ow a = some p → p = q ∨ cs p)
    (oth : ∀ a p, ow a = some p → p ≠ q → ¬ cs p → I' a = none ∧ ∀ o, H a = some o → H' a = some o)
    (val : ∀ (i : Nat) (t : T), s'.g[i]? = some (Sl.v t) → ∃ v, σ'[i]? = some (some v)) (slk : ∀ (i : Nat) (t : T), s'.g[i]? = some (Sl.lk t) → s.g[i]? = some (Sl.lk t) ∧ σ'[i]? = σ[i]?)
    (bor : ∀ (i n : Nat), s'.g[i]? = some (.bor n) → ∃ v, σ'[i]? = some (some v) ∧ F.bs[n]? = some v) (len : s'.g.length = σ'.length) (blen : s'.b.length = s.b.length) : Rel K F' I' H' σ' s' := by
  classical
  refine ⟨fun a => if a ∈ fp then some q else match ow a with
    | some p => if p = q ∨ cs p then none else some p
    | none => none, hH, ?_, ?_, ?_, ?_, ?_, ?_, val, ?_, ?_, len, ?_⟩
  · rw [L.i]; exact R.le0.trans hI
  · intro a o h1 h2
    rw [L.f] at h1
    rw [L.h] at h2
    exact cH a o h2 h1 (R.keep a o h1 h2)
  · intro a o h1 h2 h3
    rw [L.h] at h1
    rw [L.i] at h2
    rw [L.f] at h3
    cases e : I' a with
    | none => rfl
    | some u =>
      rcases cI a u e with z | z | z
      · rw [R.new a o h1 h2 h3] at z; cases z
      · rw [h1] at z; cases z
      · exact absurd z h3
  · intro r v t h
    rcases hold r v t h with ⟨rfl, z⟩ | ⟨n1, n2, z⟩
    · exact ⟨fp, by rw [L.b]; exact z, nd, fun a ha => if_pos ha⟩
    · obtain ⟨fq, k1, k2, k3⟩ := R.hold r v t z
      refine ⟨fq, by rw [L.b]; exact k1.mono hI fun a ha o e => (oth a r (k3 a ha) n1 n2).2 o e, k2, fun a ha => ?_⟩
      have e := k3 a ha
      have nf : a ∉ fp := fun z => by
        rcases (hfp a z).2.2.2 r e with y | y
        · exact n1 y
        · exact n2 y
      show (if a ∈ fp then some q else match ow a with | some p => if p = q ∨ cs p then none else some p | none => none) = some r
      rw [if_neg nf, e]
      exact if_neg (by rintro (y | y); exact n1 y; exact n2 y)
  · intro a p h
    rw [L.h, L.f]
    have h' : (if a ∈ fp then some q else match ow a with | some p => if p = q ∨ cs p then none else some p | none => none) = some p := h
    by_cases ha : a ∈ fp
    · exact ⟨(hfp a ha).1, (hfp a ha).2.1⟩
    · rw [if_neg ha] at h'
      cases e : ow a with
      | none => rw [e] at h'; cases h'
      | some r =>
        rw [e] at h'
        have h'' : (if r = q ∨ cs r then none else some r) = some p := h'
        by_cases hc : r = q ∨ cs r
        · rw [if_pos hc] at h''; cases h''
        · rw [not_or] at hc
          exact ⟨(oth a r e hc.1 hc.2).1, (R.own a r e).2⟩
  · intro a p h
    have h' : (if a ∈ fp then some q else match ow a with | some p => if p = q ∨ cs p then none else some p | none => none) = some p := h
    by_cases ha : a ∈ fp
    · exact (hfp a ha).2.2.1
    · rw [if_neg ha] at h'
      cases e : ow a with
      | none => rw [e] at h'; cases h'
      | some r =>
        rw [e] at h'
        have h'' : (if r = q ∨ cs r then none else some r) = some p := h'
        by_cases hc : r = q ∨ cs r
        · rw [if_pos hc] at h''; cases h''
        · rw [not_or] at hc
          obtain ⟨o, ho⟩ := R.liv a r e
          exact ⟨o, (oth a r e hc.1 hc.2).2 o ho⟩
  · intro i t h
    obtain ⟨h1, h2⟩ := slk i t h
    obtain ⟨v, fq, k1, k2, k3, k4⟩ := R.lk i t h1
    refine ⟨v, fq, by rw [h2]; exact k1, ?_, k3, fun a ha => ?_⟩
    · rw [L.b]
      refine k2.mono hI fun a ha o e => ?_
      obtain ⟨_, _, ⟨u, hu⟩, hb⟩ := k4 a ha
      have := R.keep a u hb hu
      rw [this] at e
      cases e
      exact cH a _ hu hb this
    · obtain ⟨m1, m2, ⟨u, hu⟩, m4⟩ := k4 a ha
      rw [L.h, L.i, L.f]
      refine ⟨?_, m2, ⟨u, hu⟩, m4⟩
      cases e : I' a with
      | none => rfl
      | some w =>
        rcases cI a w e with z | z | z
        · rw [m1] at z; cases z
        · rw [hu] at z; cases z
        · exact absurd z m4
  · intro i n h
    rw [L.b]
    exact bor i n h
  · rw [blen, L.b]
    exact R.blen
/-- a fresh place is none of those at the start, and is owned by none -/
theorem RelO.free (R : RelO K F I H σ s ow) {p : Addr} (h : H p = none) : (F.H0 p = none ∨ p ∈ F.bf) ∧ ow p = none ∧ I p = none := by
  refine ⟨?_, ?_, R.le.free h⟩
  · cases q : F.H0 p with
    | none => exact .inl rfl
    | some o =>
      by_cases hb : p ∈ F.bf
      · exact .inr hb
      · rw [R.keep p o hb q] at h; cases h
  · cases q : ow p with
    | none => rfl
    | some r =>
      obtain ⟨o, ho⟩ := R.liv p r q
      rw [h] at ho; cases ho
/-- nothing of what is held changes; something may be laid, frozen or not -/
theorem Rel.grow (R : Rel K F I H σ s) (hI : Same I I') (hH : Same I' H') (hh : Same H H') (cI : ∀ (a : Addr) (o : HO), I' a = some o → I a = some o ∨ H a = none) : Rel K F I' H' σ s := by
  obtain ⟨ow, R⟩ := R
  have cN : ∀ a o, H a = some o → I a = none → I' a = none := fun a o ho hn => by
    cases e : I' a with
    | none => rfl
    | some u =>
      rcases cI a u e with z | z
      · rw [hn] at z; cases z
      · rw [ho] at z; cases z
  refine ⟨ow, hH, R.le0.trans hI, fun a o h1 h2 => hh _ _ (R.keep a o h1 h2), fun a o h1 h2 h3 => cN a o (R.keep a o h3 h1) (R.new a o h1 h2 h3), fun p v t h => ?_, fun a p h => ?_, fun a p h => ?_, R.val, fun i t h => ?_, R.bor, R.len, R.blen⟩
  · obtain ⟨fp, k1, k2, k3⟩ := R.hold p v t h
    exact ⟨fp, k1.mono hI fun a _ o e => hh _ _ e, k2, k3⟩
  · obtain ⟨o, ho⟩ := R.liv a p h
    exact ⟨cN a o ho (R.own a p h).1, (R.own a p h).2⟩
  · obtain ⟨o, ho⟩ := R.liv a p h
    exact ⟨o, hh _ _ ho⟩
  · obtain ⟨v, fp, k1, k2, k3, k4⟩ := R.lk i t h
    refine ⟨v, fp, k1, k2.mono hI fun a _ o e => hh _ _ e, k3, fun a ha => ?_⟩
    obtain ⟨m1, m2, m3, m4⟩ := k4 a ha
    obtain ⟨o, ho⟩ := k2.ex ha
    exact ⟨cN a o ho m1, m2, m3, m4⟩
theorem same_new {p : Addr} (h : H p = none) (o : HO) : Same H (upd H p o) := fun b u q => by rw [upd_ne (ne_of_none q h)]; exact q
theorem same_both {p : Addr} {o : HO} (e : Same I H) : Same (upd I p o) (upd H p o) := fun b u q => by
  by_cases h : b = p
  · subst h; rw [upd_same] at q ⊢; exact q
  · rw [upd_ne h] at q ⊢; exact e _ _ q
theorem same_upd2 {p : Addr} {o : HO} (e : Same I H) (hI : I p = none) : Same I (upd H p o) := fun b u q => by rw [upd_ne (ne_of_none q hI)]; exact e _ _ q
/-- something new that never changes is laid -/
theorem Rel.lay (R : Rel K F I H σ s) {p : Addr} {o : HO} (h : H p = none) : Rel K F (upd I p o) (upd H p o) σ s :=
  R.grow (same_new (R.le.free h) o) (same_both R.le) (same_new h o) fun a u e => by
    by_cases q : a = p
    · subst q; exact .inr h
    · rw [upd_ne q] at e; exact .inl e
/-- something new is laid that nobody holds -/
theorem Rel.layO (R : Rel K F I H σ s) {p : Addr} {o : HO} (h : H p = none) : Rel K F I (upd H p o) σ s :=
  R.grow (Same.refl I) (same_upd2 R.le (R.le.free h)) (same_new h o) fun a u e => .inl e
/-- less is held -/
theorem RelO.weak (R : RelO K F I H σ s ow) (L : Fx.Like F F') (hold : ∀ r v t, Holds F' σ' s' r v t → Holds F σ s r v t) (val : ∀ (i : Nat) (t : T), s'.g[i]? = some (Sl.v t) → ∃ v, σ'[i]? = some (some v))
    (slk : ∀ (i : Nat) (t : T), s'.g[i]? = some (Sl.lk t) → s.g[i]? = some (Sl.lk t) ∧ σ'[i]? = σ[i]?) (bor : ∀ (i n : Nat), s'.g[i]? = some (Sl.bor n) → ∃ v, σ'[i]? = some (some v) ∧ F.bs[n]? = some v) (len : s'.g.length = σ'.length) (blen : s'.b.length = s.b.length) : RelO K F' I H σ' s' ow := by
  refine ⟨R.le, by rw [L.i]; exact R.le0, by rw [L.h, L.f]; exact R.keep, by rw [L.h, L.f, L.i]; exact R.new, fun p v t h => by rw [L.b]; exact R.hold p v t (hold p v t h), by rw [L.h, L.f]; exact R.own, R.liv, val, fun i t h => ?_, by rw [L.b]; exact bor, len, by rw [blen, L.b]; exact R.blen⟩
  obtain ⟨h1, h2⟩ := slk i t h
  obtain ⟨v, fp, k1, k2, k3, k4⟩ := R.lk i t h1
  exact ⟨v, fp, by rw [h2]; exact k1, by rw [L.b]; exact k2, k3, by rw [L.h, L.f, L.i]; exact k4⟩
theorem push_at {v v' : V} {t t' : T} {k : Nat} (h : (F.push v t).ts[k]? = some (v', t')) : (k = F.ts.length ∧ v' = v ∧ t' = t) ∨ (k ≠ F.ts.length ∧ F.ts[k]? = some (v', t')) := by
  have h' : (F.ts ++ [(v, t)])[k]? = some (v', t') := h
  rw [List.getElem?_append] at h'
  by_cases hk : k < F.ts.length
  · rw [if_pos hk] at h'
    exact .inr ⟨by omega, h'⟩
  · rw [if_neg hk] at h'
    by_cases e : k = F.ts.length
    · subst e
      simp at h'
      exact .inl ⟨rfl, h'.1.symm, h'.2.symm⟩
    · have : k - F.ts.length ≠ 0 := by omega
      cases q : k - F.ts.length with
      | zero => exact absurd q this
      | succ n => rw [q] at h'; simp at h'
theorem ts_len {k : Nat} {x : V × T} (h : F.ts[k]? = some x) : k ≠ F.ts.length := by
  have := (List.getElem?_eq_some_iff.mp h).1
  omega
/-- what is held by nobody as yet is let go -/
theorem Rel.pop {v : V} {t : T} (R : Rel K (F.push v t) I H σ s) : Rel K F I H σ s := by
  obtain ⟨ow, R⟩ := R
  refine ⟨ow, R.weak like_pop (fun r v' t' h => ?_) R.val (fun i t h => ⟨h, rfl⟩) R.bor R.len rfl⟩
  cases r with
  | s i => exact h
  | c n => exact h
  | t k =>
    show (F.ts ++ [(v, t)])[k]? = some (v', t')
    have h' : F.ts[k]? = some (v', t') := h
    rw [List.getElem?_append_left (List.getElem?_eq_some_iff.mp h').1]
    exact h'
/-- a new tree that nobody holds as yet -/
theorem Rel.push (R : Rel K F I H σ s) {v : V} {t : T} {fp : List Addr} (hI : Same I I') (hH : Same I' H') (hh : Same H H') (cI : ∀ (a : Addr) (o : HO), I' a = some o → I a = some o ∨ H a = none) (h : TR K F.bs I' H' v t fp) (nd : fp.Nodup) (hf : ∀ a ∈ fp, H a = none ∧ I' a = none) : Rel K (F.push v t) I' H' σ s := by
  obtain ⟨ow, R⟩ := R
  refine R.put (q := .t F.ts.length) (fp := fp) (cs := fun _ => False) like_push hI hH (fun a o e => ?_) (fun a o _ _ e => hh _ _ e) (fun r v' t' hr => ?_) nd (fun a ha => ?_) (fun a p e _ _ => ?_) R.val (fun i t h => ⟨h, rfl⟩) R.bor R.len rfl
  · rcases cI a o e with z | z
    · exact .inl z
    · exact .inr (R.free z).1
  · cases r with
    | s i => exact .inr ⟨by simp, by simp, hr⟩
    | c n => exact .inr ⟨by simp, by simp, hr⟩
    | t k =>
      rcases push_at hr with ⟨rfl, rfl, rfl⟩ | ⟨n, z⟩
      · exact .inl ⟨rfl, h⟩
      · exact .inr ⟨by simpa using n, by simp, z⟩
  · obtain ⟨h1, h2⟩ := hf a ha
    obtain ⟨k1, k2, k3⟩ := R.free h1
    exact ⟨h2, k1, h.ex ha, fun p e => by rw [k2] at e; cases e⟩
  · obtain ⟨o, ho⟩ := R.liv a p e
    refine ⟨?_, fun o e => hh _ _ e⟩
    cases q : I' a with
    | none => rfl
    | some u =>
      rcases cI a u q with z | z
      · rw [(R.own a p e).1] at z; cases z
      · rw [ho] at z; cases z
theorem Rel.pushD (R : Rel K F I H σ s) {v : V} {d : D} (h : Dt K I v d) : Rel K (F.push v (.d d)) I H σ s :=
  R.push (Same.refl I) R.le (Same.refl H) (fun _ _ e => .inl e) (.d h) List.nodup_nil fun a ha => by cases ha
/-- frozen objects are added -/
def addFp (I H : Hp) (fp : List Addr) : Hp := fun a => if a ∈ fp then H a else I a
theorem addFp_same {fp : List Addr} (hn : ∀ a ∈ fp, I a = none) : Same I (addFp I H fp) := fun a o h => by
  unfold addFp
  by_cases q : a ∈ fp
  · rw [hn a q] at h; cases h
  · rw [if_neg q]; exact h
theorem addFp_le {fp : List Addr} (e : Same I H) : Same (addFp I H fp) H := fun a o h => by
  unfold addFp at h
  by_cases q : a ∈ fp
  · rw [if_pos q] at h; exact h
  · rw [if_neg q] at h; exact e _ _ h
/-- a tree that nobody holds as yet is held for good -/
theorem Rel.freeze2 {v : V} {t : T} {d : D} (R : Rel K (F.push v t) I H σ s) (hd : fz t = some d) : ∃ (I' : Hp) (fp : List Addr), Same I I' ∧ Rel K F I' H σ s ∧ Dt K I' v d ∧ TR K F.bs I H v t fp ∧ ∀ a ∈ fp, ∀ o, H a = some o → I' a = some o := by
  obtain ⟨ow, R⟩ := R
  have hp : Holds (F.push v t) σ s (.t F.ts.length) v t := by
    show (F.ts ++ [(v, t)])[F.ts.length]? = some (v, t)
    simp
  obtain ⟨fp, k1, k2, k3⟩ := R.hold _ v t hp
  have hn : ∀ a ∈ fp, I a = none := fun a ha => (R.own a _ (k3 a ha)).1
  have sI : Same I (addFp I H fp) := addFp_same hn
  have hat : ∀ a ∈ fp, ∀ o, H a = some o → addFp I H fp a = some o := fun a ha o e => by unfold addFp; rw [if_pos ha]; exact e
  refine ⟨addFp I H fp, fp, sI, ?_, k1.dt sI hd hat, k1, hat⟩
  refine R.put (q := .t F.ts.length) (fp := []) (cs := fun _ => False) like_pop sI (addFp_le R.le) (fun a o e => ?_) (fun a o _ _ e => e) (fun r v' t' hr => ?_) List.nodup_nil (fun a ha => by cases ha) (fun a p e n _ => ⟨?_, fun o e => e⟩) R.val (fun i t h => ⟨h, rfl⟩) R.bor R.len rfl
  · unfold addFp at e
    by_cases q : a ∈ fp
    · exact .inr (R.own a _ (k3 a q)).2
    · rw [if_neg q] at e; exact .inl e
  · cases r with
    | s i => exact .inr ⟨by simp, by simp, hr⟩
    | c n => exact .inr ⟨by simp, by simp, hr⟩
    | t k =>
      have hr' : F.ts[k]? = some (v', t') := hr
      refine .inr ⟨by simpa using ts_len hr', by simp, ?_⟩
      show (F.ts ++ [(v, t)])[k]? = some (v', t')
      rw [List.getElem?_append_left (List.getElem?_eq_some_iff.mp hr').1]
      exact hr'
  · unfold addFp
    by_cases q : a ∈ fp
    · have := k3 a q
      rw [e] at this
      cases this
      exact absurd rfl n
    · rw [if_neg q]
      exact (R.own a p e).1
theorem Rel.freeze {v : V} {t : T} {d : D} (R : Rel K (F.push v t) I H σ s) (hd : fz t = some d) : ∃ I', Same I I' ∧ Rel K F I' H σ s ∧ Dt K I' v d :=
  let ⟨I', _, a, b, c, _⟩ := R.freeze2 hd
  ⟨I', a, b, c⟩
end
end Nw

set_option Elab.async false
set_option linter.all false
set_option maxRecDepth 100000
set_option maxHeartbeats 4000000
namespace Nw
open PySem L2
def Fx.pushes (F : Fx) (ps : List (V × T)) : Fx := { F with ts := F.ts ++ ps }
section
variable {K : PySem.W.Frag} {F F' : Fx} {I I' H H' : Hp} {σ σ' : St} {s s' : S} {ow : Addr → Option Pl}
theorem like_pushes {ps qs : List (V × T)} : Fx.Like (F.pushes ps) (F.pushes qs) := ⟨rfl, rfl, rfl, rfl⟩
theorem pushes_at {ps : List (V × T)} {k : Nat} {x : V × T} (h : (F.pushes ps).ts[k]? = some x) : (k < F.ts.length ∧ F.ts[k]? = some x) ∨ (∃ j, k = F.ts.length + j ∧ ps[j]? = some x) := by
  have h' : (F.ts ++ ps)[k]? = some x := h
  rw [List.getElem?_append] at h'
  by_cases hk : k < F.ts.length
  · rw [if_pos hk] at h'; exact .inl ⟨hk, h'⟩
  · rw [if_neg hk] at h'
    exact .inr ⟨k - F.ts.length, by omega, h'⟩
theorem at_pushes {ps : List (V × T)} {j : Nat} {x : V × T} (h : ps[j]? = some x) : (F.pushes ps).ts[F.ts.length + j]? = some x := by
  show (F.ts ++ ps)[F.ts.length + j]? = some x
  rw [List.getElem?_append_right (by omega)]
  simpa using h
theorem at_old {ps : List (V × T)} {k : Nat} {x : V × T} (h : F.ts[k]? = some x) : (F.pushes ps).ts[k]? = some x := by
  show (F.ts ++ ps)[k]? = some x
  rw [List.getElem?_append_left (List.getElem?_eq_some_iff.mp h).1]
  exact h
/-- trees held by places that are told apart -/
theorem trs_of {n : Nat} : ∀ {ps : List (V × T)} {m : Nat}, (∀ (j : Nat) (x : V × T), ps[j]? = some x → ∃ fp, TR K F.bs I H x.1 x.2 fp ∧ fp.Nodup ∧ ∀ a ∈ fp, ow a = some (.t (n + (m + j)))) →
    ∃ ff, TRs K F.bs I H (ps.map (·.1)) (ps.map (·.2)) ff ∧ ff.Nodup ∧ ∀ a ∈ ff, ∃ j, j < ps.length ∧ ow a = some (.t (n + (m + j)))
  | [], m, h => ⟨[], .nil, List.nodup_nil, fun a ha => by cases ha⟩
  | x :: ps, m, h => by
    obtain ⟨fp, h1, h2, h3⟩ := h 0 x rfl
    obtain ⟨ff, k1, k2, k3⟩ := trs_of (n := n) (ps := ps) (m := m + 1) fun j y hy => by
      obtain ⟨fq, q1, q2, q3⟩ := h (j + 1) y (by simpa using hy)
      exact ⟨fq, q1, q2, fun a ha => by rw [q3 a ha]; congr 2; omega⟩
    refine ⟨fp ++ ff, .cons h1 k1, List.nodup_append.mpr ⟨h2, k2, fun a ha b hb e => ?_⟩, fun a ha => ?_⟩
    · subst e
      obtain ⟨j, _, hj⟩ := k3 a hb
      rw [h3 a ha] at hj
      injection hj with hj
      injection hj with hj
      omega
    · rcases List.mem_append.mp ha with ha | ha
      · exact ⟨0, by simp, h3 a ha⟩
      · obtain ⟨j, hj, e⟩ := k3 a ha
        exact ⟨j + 1, by simpa using hj, by rw [e]; congr 2; omega⟩
theorem RelO.block {ps : List (V × T)} (R : RelO K (F.pushes ps) I H σ s ow) : ∃ ff, TRs K F.bs I H (ps.map (·.1)) (ps.map (·.2)) ff ∧ ff.Nodup ∧ ∀ a ∈ ff, ∃ j, j < ps.length ∧ ow a = some (.t (F.ts.length + j)) := by
  obtain ⟨ff, h1, h2, h3⟩ := trs_of (K := K) (I := I) (H := H) (ow := ow) (n := F.ts.length) (ps := ps) (m := 0) fun j x hx => by
    obtain ⟨fp, k1, k2, k3⟩ := R.hold (.t (F.ts.length + j)) x.1 x.2 (at_pushes hx)
    exact ⟨fp, k1, k2, fun a ha => by rw [k3 a ha, Nat.zero_add]⟩
  exact ⟨ff, h1, h2, fun a ha => by
    obtain ⟨j, hj, e⟩ := h3 a ha
    exact ⟨j, hj, by rw [e, Nat.zero_add]⟩⟩
/-- whose an object is -/
theorem trs_own : ∀ {vs : List V} {ts : List T} {ff : List Addr}, TRs K F.bs I H vs ts ff → ff.Nodup → ∃ o : Addr → Option Nat, (∀ (k : Nat) (v : V) (t : T), vs[k]? = some v → ts[k]? = some t → ∃ fp, TR K F.bs I H v t fp ∧ fp.Nodup ∧ ∀ a ∈ fp, o a = some k) ∧ ∀ a k, o a = some k → a ∈ ff
  | _, _, _, .nil, _ => ⟨fun _ => none, fun k v t h => by simp at h, fun a k h => by cases h⟩
  | _, _, _, .cons (fp := fp) (fq := fq) h r, nd => by
    obtain ⟨n1, n2, n3⟩ := List.nodup_append.mp nd
    obtain ⟨o, h1, h2⟩ := trs_own r n2
    refine ⟨fun a => if a ∈ fp then some 0 else (o a).map (· + 1), fun k v t hv ht => ?_, fun a k e => ?_⟩
    · cases k with
      | zero =>
        simp at hv ht
        subst hv ht
        exact ⟨fp, h, n1, fun a ha => if_pos ha⟩
      | succ k =>
        obtain ⟨fk, q1, q2, q3⟩ := h1 k v t (by simpa using hv) (by simpa using ht)
        refine ⟨fk, q1, q2, fun a ha => ?_⟩
        have e := q3 a ha
        have na : a ∉ fp := fun z => n3 a z a (h2 a k e) rfl
        show (if a ∈ fp then some 0 else (o a).map (· + 1)) = some (k + 1)
        rw [if_neg na, e]
        rfl
    · have e' : (if a ∈ fp then some 0 else (o a).map (· + 1)) = some k := e
      by_cases ha : a ∈ fp
      · exact List.mem_append_left _ ha
      · rw [if_neg ha] at e'
        cases q : o a with
        | none => rw [q] at e'; cases e'
        | some j => exact List.mem_append_right _ (h2 a j q)
/-- what nobody holds as yet becomes something else -/
theorem RelO.reblock {ps qs : List (V × T)} {ff fg : List Addr} (R : RelO K (F.pushes ps) I H σ s ow) (hff : ∀ a ∈ ff, ∃ j, j < ps.length ∧ ow a = some (.t (F.ts.length + j))) (hI : Same I I') (hH : Same I' H')
    (cI : ∀ (a : Addr) (o : HO), I' a = some o → I a = some o ∨ H a = none ∨ a ∈ ff) (cH : ∀ (a : Addr) (o : HO), a ∉ ff → H a = some o → H' a = some o)
    (h : TRs K F.bs I' H' (qs.map (·.1)) (qs.map (·.2)) fg) (nd : fg.Nodup) (hf : ∀ a ∈ fg, I' a = none ∧ (H a = none ∨ a ∈ ff)) : Rel K (F.pushes qs) I' H' σ s := by
  obtain ⟨o, ho1, ho2⟩ := trs_own h nd
  -- an object of another place
  have oth : ∀ a p, ow a = some p → (∀ j, p ≠ .t (F.ts.length + j)) → a ∉ ff := fun a p e n z => by
    obtain ⟨j, _, hj⟩ := hff a z
    rw [e] at hj
    exact n j (Option.some.inj hj)
  have inB : ∀ a ∈ fg, (F.H0 a = none ∨ a ∈ F.bf) := fun a ha => by
    rcases (hf a ha).2 with z | z
    · exact (R.free z).1
    · obtain ⟨j, _, hj⟩ := hff a z
      exact (R.own a _ hj).2
  have cN : ∀ a p, ow a = some p → (∀ j, p ≠ .t (F.ts.length + j)) → I' a = none := fun a p e n => by
    cases q : I' a with
    | none => rfl
    | some u =>
      obtain ⟨w, hw⟩ := R.liv a p e
      rcases cI a u q with z | z | z
      · rw [(R.own a p e).1] at z; cases z
      · rw [hw] at z; cases z
      · exact absurd z (oth a p e n)
  have far : ∀ a u, F.H0 a = some u → a ∉ F.bf → a ∉ ff := fun a u h0 hb z => by
    obtain ⟨j, _, hj⟩ := hff a z
    rcases (R.own a _ hj).2 with y | y
    · have y' : F.H0 a = none := y
      rw [h0] at y'; cases y'
    · exact hb y
  refine ⟨fun a => match o a with
    | some k => some (.t (F.ts.length + k))
    | none => match ow a with
      | some (.t k) => if k < F.ts.length then some (.t k) else none
      | p => p, hH, R.le0.trans hI, fun a u h1 h2 => cH a u (far a u h2 h1) (R.keep a u h1 h2), fun a u h1 h2 h3 => ?_, fun p v t hp => ?_, fun a p e => ?_, fun a p e => ?_, R.val, fun i t hi => ?_, R.bor, R.len, R.blen⟩
  · cases q : I' a with
    | none => rfl
    | some w =>
      rcases cI a w q with z | z | z
      · rw [R.new a u h1 h2 h3] at z; cases z
      · rw [R.keep a u h3 h1] at z; cases z
      · exact absurd z (far a u h1 h3)
  · have old : ∀ (fp : List Addr) (p : Pl), TR K F.bs I H v t fp → fp.Nodup → (∀ a ∈ fp, ow a = some p) → (∀ j, p ≠ .t (F.ts.length + j)) → (∀ k, p = .t k → k < F.ts.length) → ∃ fp, TR K F.bs I' H' v t fp ∧ fp.Nodup ∧ ∀ a ∈ fp, (match o a with
        | some k => some (Pl.t (F.ts.length + k))
        | none => match ow a with
          | some (.t k) => if k < F.ts.length then some (.t k) else none
          | p => p) = some p := fun fp p k1 k2 k3 n lt => by
      refine ⟨fp, k1.mono hI fun a ha w e => cH a w (oth a p (k3 a ha) n) e, k2, fun a ha => ?_⟩
      have e := k3 a ha
      have : o a = none := by
        cases q : o a with
        | none => rfl
        | some k =>
          rcases (hf a (ho2 a k q)).2 with z | z
          · obtain ⟨w, hw⟩ := R.liv a p e
            rw [z] at hw; cases hw
          · exact absurd z (oth a p e n)
      rw [this, e]
      cases p with
      | s i => rfl
      | c m => rfl
      | t k => show (if k < F.ts.length then some (Pl.t k) else none) = _; rw [if_pos (lt k rfl)]
    cases p with
    | s i =>
      obtain ⟨fp, k1, k2, k3⟩ := R.hold (.s i) v t hp
      exact old fp _ k1 k2 k3 (by simp) (by simp)
    | c m =>
      obtain ⟨fp, k1, k2, k3⟩ := R.hold (.c m) v t hp
      exact old fp _ k1 k2 k3 (by simp) (by simp)
    | t k =>
      rcases pushes_at (show (F.pushes qs).ts[k]? = some (v, t) from hp) with ⟨hk, e⟩ | ⟨j, rfl, e⟩
      · obtain ⟨fp, k1, k2, k3⟩ := R.hold (.t k) v t (at_old e)
        exact old fp _ k1 k2 k3 (fun j z => by cases z; omega) (fun k' z => by cases z; exact hk)
      · obtain ⟨fp, k1, k2, k3⟩ := ho1 j v t (by rw [List.getElem?_map, e]; rfl) (by rw [List.getElem?_map, e]; rfl)
        exact ⟨fp, k1, k2, fun a ha => by simp only [k3 a ha]⟩
  · have e' : (match o a with
      | some k => some (Pl.t (F.ts.length + k))
      | none => match ow a with
        | some (.t k) => if k < F.ts.length then some (.t k) else none
        | p => p) = some p := e
    cases q : o a with
    | some k => exact ⟨(hf a (ho2 a k q)).1, inB a (ho2 a k q)⟩
    | none =>
      rw [q] at e'
      cases q2 : ow a with
      | none => rw [q2] at e'; cases e'
      | some r =>
        rw [q2] at e'
        refine ⟨cN a r q2 fun j z => ?_, (R.own a r q2).2⟩
        subst z
        have e2 : (if F.ts.length + j < F.ts.length then some (Pl.t (F.ts.length + j)) else none) = some p := e'
        rw [if_neg (by omega)] at e2
        cases e2
  · have e' : (match o a with
      | some k => some (Pl.t (F.ts.length + k))
      | none => match ow a with
        | some (.t k) => if k < F.ts.length then some (.t k) else none
        | p => p) = some p := e
    cases q : o a with
    | some k =>
      have := ho2 a k q
      rcases TRs.at h a this with ⟨_, z⟩ | ⟨_, z⟩ <;> exact ⟨_, z⟩
    | none =>
      rw [q] at e'
      cases q2 : ow a with
      | none => rw [q2] at e'; cases e'
      | some r =>
        rw [q2] at e'
        obtain ⟨w, hw⟩ := R.liv a r q2
        refine ⟨w, cH a w (oth a r q2 fun j z => ?_) hw⟩
        subst z
        have e2 : (if F.ts.length + j < F.ts.length then some (Pl.t (F.ts.length + j)) else none) = some p := e'
        rw [if_neg (by omega)] at e2
        cases e2
  · obtain ⟨v, fp, k1, k2, k3, k4⟩ := R.lk i t hi
    refine ⟨v, fp, k1, k2.mono hI fun a ha w e => ?_, k3, fun a ha => ?_⟩
    · obtain ⟨_, _, ⟨u, hu⟩, hb⟩ := k4 a ha
      exact cH a w (far a u hu hb) e
    · obtain ⟨m1, m2, ⟨u, hu⟩, hb⟩ := k4 a ha
      refine ⟨?_, m2, ⟨u, hu⟩, hb⟩
      cases q : I' a with
      | none => rfl
      | some w =>
        obtain ⟨y, hy⟩ := k2.ex ha
        rcases cI a w q with z | z | z
        · rw [m1] at z; cases z
        · rw [hy] at z; cases z
        · exact absurd z (far a u hu hb)
/-- what one place holds goes over to another -/
theorem RelO.move (R : RelO K F I H σ s ow) {p q : Pl} {v : V} {t : T} (hp : Holds F σ s p v t) (L : Fx.Like F F') (hold : ∀ r v' t', Holds F' σ' s' r v' t' → (r = q ∧ v' = v ∧ t' = t) ∨ (r ≠ q ∧ r ≠ p ∧ Holds F σ s r v' t'))
    (val : ∀ (i : Nat) (t : T), s'.g[i]? = some (Sl.v t) → ∃ v, σ'[i]? = some (some v)) (slk : ∀ (i : Nat) (t : T), s'.g[i]? = some (Sl.lk t) → s.g[i]? = some (Sl.lk t) ∧ σ'[i]? = σ[i]?)
    (bor : ∀ (i n : Nat), s'.g[i]? = some (Sl.bor n) → ∃ v, σ'[i]? = some (some v) ∧ F.bs[n]? = some v) (len : s'.g.length = σ'.length) (blen : s'.b.length = s.b.length) : Rel K F' I H σ' s' := by
  obtain ⟨fp, k1, k2, k3⟩ := R.hold p v t hp
  refine R.put (q := q) (fp := fp) (cs := fun r => r = p) L (Same.refl I) R.le (fun a o e => .inl e) (fun a o _ _ e => e) (fun r v' t' hr => ?_) k2 (fun a ha => ?_) (fun a r e n1 n2 => ⟨(R.own a r e).1, fun o e => e⟩) val slk bor len blen
  · rcases hold r v' t' hr with ⟨rfl, rfl, rfl⟩ | z
    · exact .inl ⟨rfl, k1⟩
    · exact .inr z
  · have e := k3 a ha
    exact ⟨(R.own a p e).1, (R.own a p e).2, R.liv a p e, fun r e' => .inr (by rw [e] at e'; cases e'; rfl)⟩
theorem gset {α : Type} {l : List α} {i j : Nat} {x y : α} (h : (l.set i x)[j]? = some y) : (i = j ∧ y = x ∧ i < l.length) ∨ (i ≠ j ∧ l[j]? = some y) := by
  by_cases e : i = j
  · subst e
    by_cases hl : i < l.length
    · rw [List.getElem?_set_self hl] at h; exact .inl ⟨rfl, (Option.some.inj h).symm, hl⟩
    · rw [List.getElem?_eq_none (by simpa using hl)] at h; cases h
  · rw [List.getElem?_set_ne e] at h; exact .inr ⟨e, h⟩
theorem set_get {σ : St} {i j : Nat} {x : Option V} (h : i ≠ j) : (σ.set i x)[j]? = σ[j]? := List.getElem?_set_ne h
/-- a slot takes what nobody held -/
theorem Rel.setT {v : V} {t : T} (R : Rel K (F.push v t) I H σ s) (i : Nat) : Rel K F I H (σ.set i (some v)) { s with g := s.g.set i (.v t) } := by
  obtain ⟨ow, R⟩ := R
  have hp : Holds (F.push v t) σ s (.t F.ts.length) v t := by
    show (F.ts ++ [(v, t)])[F.ts.length]? = some (v, t)
    simp
  refine R.move (p := .t F.ts.length) (q := .s i) hp like_pop (fun r v' t' hr => ?_) (fun j u h => ?_) (fun j u h => ?_) (fun j n h => ?_) (by simpa using R.len) rfl
  · cases r with
    | s j =>
      obtain ⟨h1, h2⟩ := hr
      rcases gset h2 with ⟨rfl, e, hl⟩ | ⟨n, e⟩
      · cases e
        rw [List.getElem?_set_self (by rw [← R.len]; exact hl)] at h1
        cases h1
        exact .inl ⟨rfl, rfl, rfl⟩
      · exact .inr ⟨fun z => n (by cases z; rfl), by simp, by rw [set_get n] at h1; exact h1, e⟩
    | c n => exact .inr ⟨by simp, by simp, hr⟩
    | t k =>
      have hr' : F.ts[k]? = some (v', t') := hr
      exact .inr ⟨by simp, by simpa using ts_len hr', at_old (F := F) (ps := [(v, t)]) hr'⟩
  · rcases gset h with ⟨rfl, _, hl⟩ | ⟨n, e⟩
    · exact ⟨v, List.getElem?_set_self (by rw [← R.len]; exact hl)⟩
    · obtain ⟨w, hw⟩ := R.val j u e
      exact ⟨w, by rw [set_get n]; exact hw⟩
  · rcases gset h with ⟨rfl, e, _⟩ | ⟨n, e⟩
    · cases e
    · exact ⟨e, set_get n⟩
  · rcases gset h with ⟨rfl, e, _⟩ | ⟨m, e⟩
    · cases e
    · obtain ⟨w, h1, h2⟩ := R.bor j n e
      exact ⟨w, by rw [set_get m]; exact h1, h2⟩
theorem Rel.setD (R : Rel K F I H σ s) (i : Nat) {v : V} {d : D} (h : Dt K I v d) : Rel K F I H (σ.set i (some v)) { s with g := s.g.set i (.v (.d d)) } := (R.pushD h).setT i
/-- what is known of a slot may be forgotten -/
theorem Rel.setU (R : Rel K F I H σ s) (i : Nat) (x : Option V) : Rel K F I H (σ.set i x) { s with g := s.g.set i .un } := by
  obtain ⟨ow, R⟩ := R
  refine ⟨ow, R.weak like_refl (fun r v t hr => ?_) (fun j u h => ?_) (fun j u h => ?_) (fun j n h => ?_) (by simpa using R.len) rfl⟩
  · cases r with
    | s j =>
      obtain ⟨h1, h2⟩ := hr
      rcases gset h2 with ⟨rfl, e, _⟩ | ⟨n, e⟩
      · cases e
      · exact ⟨by rw [set_get n] at h1; exact h1, e⟩
    | c n => exact hr
    | t k => exact hr
  · rcases gset h with ⟨rfl, e, _⟩ | ⟨n, e⟩
    · cases e
    · obtain ⟨w, hw⟩ := R.val j u e
      exact ⟨w, by rw [set_get n]; exact hw⟩
  · rcases gset h with ⟨rfl, e, _⟩ | ⟨n, e⟩
    · cases e
    · exact ⟨e, set_get n⟩
  · rcases gset h with ⟨rfl, e, _⟩ | ⟨m, e⟩
    · cases e
    · obtain ⟨w, h1, h2⟩ := R.bor j n e
      exact ⟨w, by rw [set_get m]; exact h1, h2⟩
theorem setSame {σ : St} {i : Nat} {v : V} (h : σ[i]? = some (some v)) : σ.set i (some v) = σ := by
  apply List.ext_getElem?
  intro j
  by_cases e : i = j
  · subst e; rw [List.getElem?_set_self (List.getElem?_eq_some_iff.mp h).1, h]
  · rw [List.getElem?_set_ne e]
/-- a slot gives its tree up -/
theorem Rel.outS (R : Rel K F I H σ s) {i : Nat} {t : T} (h : s.g[i]? = some (.v t)) : ∃ v, σ[i]? = some (some v) ∧ Rel K (F.push v t) I H σ { s with g := s.g.set i .un } := by
  obtain ⟨ow, R⟩ := R
  obtain ⟨v, hv⟩ := R.val i t h
  refine ⟨v, hv, R.move (p := .s i) (q := .t F.ts.length) ⟨hv, h⟩ like_push (fun r v' t' hr => ?_) (fun j u h => ?_) (fun j u h => ?_) (fun j n h => ?_) (by simpa using R.len) rfl⟩
  · cases r with
    | s j =>
      obtain ⟨h1, h2⟩ := hr
      rcases gset h2 with ⟨rfl, e, _⟩ | ⟨n, e⟩
      · cases e
      · exact .inr ⟨by simp, fun z => n (by cases z; rfl), h1, e⟩
    | c n => exact .inr ⟨by simp, by simp, hr⟩
    | t k =>
      rcases push_at hr with ⟨rfl, rfl, rfl⟩ | ⟨n, z⟩
      · exact .inl ⟨rfl, rfl, rfl⟩
      · exact .inr ⟨by simpa using n, by simp, z⟩
  · rcases gset h with ⟨rfl, e, _⟩ | ⟨n, e⟩
    · cases e
    · exact R.val j u e
  · rcases gset h with ⟨rfl, e, _⟩ | ⟨n, e⟩
    · cases e
    · exact ⟨e, rfl⟩
  · rcases gset h with ⟨rfl, e, _⟩ | ⟨m, e⟩
    · cases e
    · exact R.bor j n e
/-- a tree that was handed in is taken out of its place, and put back -/
theorem Rel.outC (R : Rel K F I H σ s) {n : Nat} {t : T} (h : s.b[n]? = some (some t)) : ∃ v, F.bs[n]? = some v ∧ Rel K (F.push v t) I H σ { s with b := s.b.set n none } := by
  obtain ⟨ow, R⟩ := R
  have hl : n < F.bs.length := by rw [← R.blen]; exact (List.getElem?_eq_some_iff.mp h).1
  have hv : F.bs[n]? = some F.bs[n] := List.getElem?_eq_getElem hl
  refine ⟨F.bs[n], hv, R.move (p := .c n) (q := .t F.ts.length) ⟨hv, h⟩ like_push (fun r v' t' hr => ?_) R.val (fun j u h => ⟨h, rfl⟩) R.bor R.len (by simp)⟩
  cases r with
  | s j => exact .inr ⟨by simp, by simp, hr⟩
  | c m =>
    obtain ⟨h1, h2⟩ := hr
    rcases gset h2 with ⟨rfl, e, _⟩ | ⟨k, e⟩
    · cases e
    · exact .inr ⟨by simp, fun z => k (by cases z; rfl), h1, e⟩
  | t k =>
    rcases push_at hr with ⟨rfl, rfl, rfl⟩ | ⟨m, z⟩
    · exact .inl ⟨rfl, rfl, rfl⟩
    · exact .inr ⟨by simpa using m, by simp, z⟩
theorem Rel.intoC {v : V} {t : T} (R : Rel K (F.push v t) I H σ s) {n : Nat} (h : F.bs[n]? = some v) : Rel K F I H σ { s with b := s.b.set n (some t) } := by
  obtain ⟨ow, R⟩ := R
  have hp : Holds (F.push v t) σ s (.t F.ts.length) v t := by
    show (F.ts ++ [(v, t)])[F.ts.length]? = some (v, t)
    simp
  refine R.move (p := .t F.ts.length) (q := .c n) hp like_pop (fun r v' t' hr => ?_) R.val (fun j u h => ⟨h, rfl⟩) R.bor R.len (by simp)
  cases r with
  | s j => exact .inr ⟨by simp, by simp, hr⟩
  | c m =>
    obtain ⟨h1, h2⟩ := hr
    rcases gset h2 with ⟨rfl, e, _⟩ | ⟨k, e⟩
    · cases e
      rw [h] at h1
      cases h1
      exact .inl ⟨rfl, rfl, rfl⟩
    · exact .inr ⟨fun z => k (by cases z; rfl), by simp, h1, e⟩
  | t k =>
    have hr' : F.ts[k]? = some (v', t') := hr
    exact .inr ⟨by simp, by simpa using ts_len hr', at_old (F := F) (ps := [(v, t)]) hr'⟩
end
end Nw

set_option Elab.async false
set_option linter.all false
set_option maxRecDepth 100000
set_option maxHeartbeats 4000000
noncomputable section
namespace Nw
open PySem L2

/-! ### runs -/
inductive Res (α : Type) where
  | ok (a : α) (s : S) | exc (x : D) (s : S) | bad
section
variable {α β : Type}
def bnd (m : S → Res α) (f : α → S → Res β) : S → Res β := fun s => match m s with
  | .ok a s' => f a s'
  | .exc x s' => .exc x s'
  | .bad => .bad
def ret (a : α) : S → Res α := fun s => .ok a s
def fail : S → Res α := fun _ => .bad
def lift (o : Option α) : S → Res α := fun s => match o with
  | some a => .ok a s
  | none => .bad
theorem bnd_ok {m : S → Res α} {f : α → S → Res β} {s s2 : S} {b : β} (h : bnd m f s = .ok b s2) : ∃ a s1, m s = .ok a s1 ∧ f a s1 = .ok b s2 := by
  unfold bnd at h
  cases e : m s with
  | ok a s1 => rw [e] at h; exact ⟨a, s1, rfl, h⟩
  | exc x b => rw [e] at h; cases h
  | bad => rw [e] at h; cases h
theorem lift_ok {o : Option α} {s s2 : S} {a : α} (h : lift o s = .ok a s2) : o = some a ∧ s2 = s := by
  unfold lift at h
  cases o with
  | none => cases h
  | some b => cases h; exact ⟨rfl, rfl⟩
theorem ret_ok {a b : α} {s s2 : S} (h : ret a s = .ok b s2) : b = a ∧ s2 = s := by
  unfold ret at h; cases h; exact ⟨rfl, rfl⟩
end

/-! ### operators on data -/
noncomputable instance (i j : Int) : Decidable (CMul i j) := Classical.propDecidable _
noncomputable instance (i j : Int) : Decidable (CMulW i j) := Classical.propDecidable _
noncomputable instance (i j : Int) : Decidable (CDivW i j) := Classical.propDecidable _
noncomputable instance (i j : Int) : Decidable (CPow i j) := Classical.propDecidable _
def ltB (i j : Int) : Bool := @decide (i < j) (Classical.propDecidable _)
def leB (i j : Int) : Bool := @decide (i ≤ j) (Classical.propDecidable _)
def eqB (i j : Int) : Bool := @decide (i = j) (Classical.propDecidable _)
def inR (j : Int) : Bool := @decide (-(2 ^ 62) ≤ j ∧ j < 2 ^ 62) (Classical.propDecidable _)
theorem ltB_eq (i j : Int) : ltB i j = decide (i < j) := by unfold ltB; congr
theorem leB_eq (i j : Int) : leB i j = decide (i ≤ j) := by unfold leB; congr
theorem eqB_eq (i j : Int) : eqB i j = decide (i = j) := by unfold eqB; congr
theorem inR_eq (j : Int) : inR j = decide (-(2 ^ 62) ≤ j ∧ j < 2 ^ 62) := by unfold inR; congr
theorem inR_iff {j : Int} : inR j = true ↔ -(2 ^ 62) ≤ j ∧ j < 2 ^ 62 := by rw [inR_eq, decide_eq_true_iff]
def binD : Operator → D → D → Option T
  | .Add, .int i, .int j => some (.d (.int (i + j)))
  | .Add, .list a, .list b => if a.length + b.length ≤ sizeLine then some (.l ((a ++ b).map .d)) else none
  | .Add, .tuple a, .tuple b => if a.length + b.length ≤ sizeLine then some (.d (.tuple (a ++ b))) else none
  | .Add, .str a, .str b => if a.length + b.length ≤ sizeLine then some (.d (.str (a ++ b))) else none
  | .Sub, .int i, .int j => some (.d (.int (i - j)))
  | .Mult, .int i, .int j => if CMul i j ∨ CMulW i j then some (.d (.int (i * j))) else none
  | .FloorDiv, .int i, .int j => if CDivW i j then some (.d (.int (i / j))) else none
  | .Mod, .int i, .int j => if 0 < j then some (.d (.int (i % j))) else none
  | .Pow, .int i, .int j => if CPow i j then some (.d (.int (i ^ j.toNat))) else none
  | .BitAnd, .int i, .int j => some (.d (.int (Builtin.bitAnd i j)))
  | _, _, _ => none
def augD : Operator → D → D → Option D
  | .Add, .int i, .int j => some (.int (i + j))
  | .Sub, .int i, .int j => some (.int (i - j))
  | .Mult, .int i, .int j => if CMul i j then some (.int (i * j)) else none
  | .FloorDiv, .int i, .int j => if CDivW i j then some (.int (i / j)) else none
  | _, _, _ => none
def flatD : D → Bool
  | .none => true
  | .bool _ => true
  | .int _ => true
  | .str _ => true
  | _ => false
def inD (x : D) (xs : List D) : Bool := xs.any fun y => PyData.eqv y x
/-- the key that data is -/
def keyD : D → Option Key
  | .int i => some (.inl i)
  | .str x => some (.inr x)
  | _ => none
/-- an exception's data -/
def isExc : D → Bool
  | .dict ((.none, _) :: _) => true
  | _ => false
/-- a dict's value -/
def valD : List (D × D) → D → Option D
  | [], _ => none
  | (k', x) :: r, k => if keyD k' = keyD k then some x else valD r k
def cmpD : CmpOp → D → D → Option Bool
  | .Lt, .int i, .int j => some (ltB i j)
  | .LtE, .int i, .int j => some (leB i j)
  | .Gt, .int i, .int j => some (ltB j i)
  | .GtE, .int i, .int j => some (leB j i)
  | .Lt, .str i, .str j => some (decide (i.cps.toList < j.cps.toList))
  | .Eq, .int i, .int j => some (eqB i j)
  | .Eq, .str i, .str j => some (decide (i = j))
  | .Eq, .bool i, .bool j => some (decide (i = j))
  | .Eq, a, b => if SeqAt.shaped a && SeqAt.shaped b then some (PyData.eqv a b) else none
  | .NotEq, .int i, .int j => some (!eqB i j)
  | .NotEq, .str i, .str j => some (!decide (i = j))
  | .NotEq, .bool i, .bool j => some (!decide (i = j))
  | .NotEq, a, b => if SeqAt.shaped a && SeqAt.shaped b then some (!PyData.eqv a b) else none
  | .In, x, .list ys => if flatD x && ys.all flatD then some (inD x ys) else none
  | .In, x, .tuple ys => if flatD x && ys.all flatD then some (inD x ys) else none
  | .In, .str i, .str j => some (!(Builtin.Str.occurrences j i 0 j.length 1).isEmpty)
  | .In, x, .dict kvs => if (keyD x).isSome && !isExc (.dict kvs) then some (valD kvs x).isSome else none
  | .NotIn, x, .list ys => if flatD x && ys.all flatD then some (!inD x ys) else none
  | .NotIn, x, .tuple ys => if flatD x && ys.all flatD then some (!inD x ys) else none
  | .NotIn, .str i, .str j => some (!(!(Builtin.Str.occurrences j i 0 j.length 1).isEmpty))
  | .NotIn, x, .dict kvs => if (keyD x).isSome && !isExc (.dict kvs) then some (!(valD kvs x).isSome) else none
  | .Is, .none, .none => some true
  | .Is, _, .none => some false
  | .IsNot, .none, .none => some false
  | .IsNot, _, .none => some true
  | .Is, .bool i, .bool j => some (decide (i = j))
  | .IsNot, .bool i, .bool j => some (!decide (i = j))
  | _, _, _ => none
def truthD : D → Option Bool
  | .none => some false
  | .bool b => some b
  | .int i => some (i != 0)
  | .str x => if x.length ≤ sizeLine then some ((x.length : Int) != 0) else none
  | .list xs => some (!xs.isEmpty)
  | .tuple xs => some (!xs.isEmpty)
  | .dict _ => none
def negD : D → Option D
  | .int i => some (.int (-i))
  | _ => none
def boolD : D → Option Bool
  | .bool b => some b
  | _ => none
def ixD : D → D → Option D
  | .list xs, .int i => atI xs i
  | .tuple xs, .int i => atI xs i
  | .str x, .int i => if x.length ≤ sizeLine then (atI x.cps.toList i).map fun c => .str ⟨#[c]⟩ else none
  | .dict kvs, k => if (keyD k).isSome && !isExc (.dict kvs) then valD kvs k else none
  | _, _ => none
def cutD (xs : List D) (lo hi : Option Int) : List D := (xs.drop (HT.sIx xs.length 0 lo)).take (HT.sIx xs.length xs.length hi - HT.sIx xs.length 0 lo)
def sliceD (c : D) (l h : Option Int) : Option T := match c with
  | .list xs => some (.l ((cutD xs l h).map .d))
  | .tuple xs => some (.d (.tuple (cutD xs l h)))
  | .str z => if z.length ≤ sizeLine then some (.d (.str (cutS z l h))) else none
  | _ => none
def lenD : D → Option D
  | .list xs => some (.int xs.length)
  | .tuple xs => some (.int xs.length)
  | .str x => if x.length ≤ sizeLine then some (.int x.length) else none
  | .dict kvs => if !isExc (.dict kvs) then some (.int kvs.length) else none
  | _ => none
def seqD : D → Option (List D)
  | .list xs => some xs
  | .tuple xs => some xs
  | _ => none
def intD : D → Option Int
  | .int i => some i
  | _ => none
def boolsD : List D → Option (List Bool)
  | [] => some []
  | .bool b :: r => (boolsD r).map (b :: ·)
  | _ :: _ => none
/-- built-in classes that isinstance is asked with -/
def tyD : D → Option String
  | .none => some "NoneType"
  | .bool _ => some "bool"
  | .int _ => some "int"
  | .str _ => some "str"
  | .list _ => some "list"
  | .tuple _ => some "tuple"
  | .dict kvs => if isExc (.dict kvs) then none else some "dict"
def isiD (t c : String) : Bool := t == c || (t == "bool" && c == "int")
def clsNames : List Str := ["int", "bool", "str", "list", "tuple", "dict"]
def clsOf (x : Str) : Option String :=
  if x = "int" then some "int" else if x = "bool" then some "bool" else if x = "str" then some "str" else if x = "list" then some "list" else if x = "tuple" then some "tuple" else if x = "dict" then some "dict" else none

/-! ### defs that may be called -/
inductive Rv where
  | val (t : T) (b : List T) | exc (x : D) (b : List T)
/-- sig: which arguments are trees that the def may change -/
structure Fn where
  sig : List Bool
  run : List D → List T → Option Rv
/-- own exception classes: made (class, field), isinstance, fields that may be read -/
structure Exs where
  made : Str → Option (Int × Option Str)
  isi : Int → Str → Option Bool
  fld : Int → Str → Bool
def noEx : Exs := ⟨fun _ => none, fun _ _ => none, fun _ _ => false⟩
structure Cf where
  N : List Str
  sc : Scope
  fns : Str → Nat → List Str → Option Fn
  gl : Str → Option D
  /-- a written dict with texts as keys -/
  gd : Str → Option (List (Str × D))
  blt : Str → Bool
  wf : Nat
  fn : Str → Bool
  ex : Exs

/-! ### slots -/
def okName (x : Str) : Bool := !(x == ("__debug__" : Str)) && !(x == ("__classdict__" : Str))
/-- the slot of a name that may be read -/
def slotOf (C : Cf) (x : Str) : Option Nat := match C.sc.names.lookup x with
  | some .local => if okName x then C.N.findIdx? (· == x) else none
  | some .cell => if okName x then C.N.findIdx? (· == x) else none
  | some .free => if okName x then C.N.findIdx? (· == x) else none
  | _ => none
def locOf (C : Cf) (x : Str) : Option Nat := match C.sc.names.lookup x with
  | some .local => C.N.findIdx? (· == x)
  | some .cell => if C.fn x then C.N.findIdx? (· == x) else none
  | _ => none
def isGl (C : Cf) (x : Str) : Bool := (match C.sc.names.lookup x with | some .globalImplicit => true | _ => false) && !(x == ("__debug__" : Str))
/-- a name that stands for the built-in of that name -/
def isBlt (C : Cf) (x : Str) : Bool := isGl C x && C.blt x && !(x == ("__name__" : Str))
/-- all of them data -/
def dts : List T → Option (List D)
  | [] => some []
  | .d d :: r => (match dts r with | some ds => some (d :: ds) | none => none)
  | _ :: _ => none
def dtk : List (Key × T) → Option (List (D × D))
  | [] => some []
  | (k, .d d) :: r => (match dtk r with | some ds => some ((kd k, d) :: ds) | none => none)
  | _ :: _ => none
/-- a tree looked at in passing -/
def vw : T → Option D
  | .d d => some d
  | .l ts => (match dts ts with | some ds => some (.list ds) | none => none)
  | .m kvs => (match dtk kvs with | some ds => some (.dict ds) | none => none)
  | .p _ => none
  | .o _ _ => none
/-- read for good -/
def rdS (i : Nat) : S → Res D := fun s => match s.g[i]? with
  | some (.v (.d d)) => .ok d s
  | some (.v t) => (match fz t with | some d => .ok d { s with g := s.g.set i (.v (.d d)) } | none => .bad)
  | _ => .bad
/-- the tree of a slot -/
def root (i : Nat) (s : S) : Option T := match s.g[i]? with
  | some (.v t) => some t
  | some (.lk t) => some t
  | some (.bor n) => (match s.b[n]? with | some (some t) => some t | _ => none)
  | _ => none
def rootPut (i : Nat) (s : S) (t : T) : S := match s.g[i]? with
  | some (.v _) => { s with g := s.g.set i (.v t) }
  | some (.bor n) => { s with b := s.b.set n (some t) }
  | _ => s
def mayPut (i : Nat) (s : S) : Bool := match s.g[i]? with
  | some (.v _) => true
  | some (.bor _) => true
  | _ => false
def pkS (i : Nat) : S → Res D := fun s => match root i s with
  | some t => (match vw t with | some d => .ok d s | none => .bad)
  | none => .bad
/-- a step that needs no reckoning -/
def stepOf (C : Cf) (s : S) : Expr → Option Step
  | .Constant (.int i) _ _ => some (.ix (.inl i))
  | .Constant (.str x) _ _ => some (.ix (.inr x))
  | .Name x _ => (match slotOf C x with
    | some i => (match s.g[i]? with
      | some (.v (.d (.int z))) => some (.ix (.inl z))
      | some (.v (.d (.str z))) => some (.ix (.inr z))
      | _ => none)
    | none => none)
  | _ => none
def plc (C : Cf) (s : S) : Expr → Option (Nat × List Step)
  | .Name x _ => (slotOf C x).map fun i => (i, [])
  | .Subscript a i _ => (match plc C s a, stepOf C s i with
    | some (r, st), some k => some (r, st ++ [k])
    | _, _ => none)
  | _ => none
def getAt (s : S) (p : Nat × List Step) : Option T := (root p.1 s).bind fun t => getP t p.2
def putAt (s : S) (p : Nat × List Step) (u : T) : S := match root p.1 s with
  | some t => rootPut p.1 s (putP t p.2 u)
  | none => s
/-- a tree that may be changed -/
def chP (p : Nat × List Step) (f : T → Option (D × T)) : S → Res D := fun s => if mayPut p.1 s then (match getAt s p with
  | some t => (match f t with | some (r, u) => .ok r (putAt s p u) | none => .bad)
  | none => .bad) else .bad
def setT (i : Nat) (t : T) : S → Res Unit := fun s => .ok () { s with g := s.g.set i (.v t) }
end Nw
end

set_option Elab.async false
set_option linter.all false
set_option maxRecDepth 100000
set_option maxHeartbeats 4000000
noncomputable section
namespace Nw
open PySem L2

/-! ### expressions -/
def noStar : Expr → Bool
  | .Starred _ _ => false
  | _ => true
def notSet : Expr → Bool
  | .Set _ _ _ => false
  | _ => true
def notSlice : Expr → Bool
  | .Slice _ _ _ _ => false
  | _ => true
/-- an item of a list that is kept as a tree -/
def isTree : Expr → Bool
  | .List _ _ => true
  | .ListComp _ _ _ _ => true
  | .Call _ _ _ _ => true
  | _ => false
structure EvK where
  e : Expr → S → Res T
  t : Expr → S → Res Bool
  it : Expr → Expr → S → Res (List D)
  asg : Expr → D → S → Res Unit
/-- for good: data -/
def dE (R : EvK) (e : Expr) : S → Res D := bnd (R.e e) fun t => lift (fz t)
def evs (R : EvK) : List Expr → S → Res (List T)
  | [] => ret []
  | e :: es => bnd (R.e e) fun d => bnd (evs R es) fun ds => ret (d :: ds)
def evd (R : EvK) : List Expr → S → Res (List D)
  | [] => ret []
  | e :: es => bnd (dE R e) fun d => bnd (evd R es) fun ds => ret (d :: ds)
/-- read in passing -/
def pkE (C : Cf) (R : EvK) (e : Expr) : S → Res D := match e with
  | .Name x _ => (match slotOf C x with | some i => pkS i | none => dE R e)
  | .Subscript a i q => fun s => (match (plc C s (.Subscript a i q)).bind (getAt s) with
    | some t => (match vw t with | some d => .ok d s | none => .bad)
    | none => dE R (.Subscript a i q) s)
  | _ => dE R e
def evName (C : Cf) (x : Str) : S → Res D := match slotOf C x with
  | some i => rdS i
  | none => if isGl C x then lift (C.gl x) else fail
/-- two operands from the left, looked at when both are there -/
def opE {α : Type} (C : Cf) (R : EvK) (a b : Expr) (f : D → D → Option α) : S → Res α := match a with
  | .Name x _ => (match slotOf C x with
    | some j => bnd (pkS j) fun _ => bnd (pkE C R b) fun y => bnd (pkS j) fun x => lift (f x y)
    | none => bnd (dE R a) fun x => bnd (pkE C R b) fun y => lift (f x y))
  | _ => bnd (dE R a) fun x => bnd (pkE C R b) fun y => lift (f x y)
def andV (R : EvK) : List Expr → S → Res T
  | [] => fail
  | [a] => R.e a
  | a :: r => bnd (dE R a) fun x => bnd (lift (boolD x)) fun c => if c then andV R r else ret (.d (.bool false))
def orV (R : EvK) : List Expr → S → Res T
  | [] => fail
  | [a] => R.e a
  | a :: r => bnd (dE R a) fun x => bnd (lift (boolD x)) fun c => if c then ret (.d (.bool true)) else orV R r
def andT (R : EvK) : List Expr → S → Res Bool
  | [] => fail
  | [a] => R.t a
  | a :: r => bnd (R.t a) fun c => if c then andT R r else ret false
def orT (R : EvK) : List Expr → S → Res Bool
  | [] => fail
  | [a] => R.t a
  | a :: r => bnd (R.t a) fun c => if c then ret true else orT R r
def cmpE (C : Cf) (R : EvK) (a : Expr) (ops : List CmpOp) (bs : List Expr) : S → Res Bool := match ops, bs with
  | [op], [b] => if notSet b then opE C R a b (cmpD op) else fail
  | [op, op'], [b, c] => if notSet b && notSet c then bnd (dE R a) fun x => bnd (dE R b) fun y => bnd (lift (cmpD op x y)) fun k => if k then bnd (dE R c) fun z => lift (cmpD op' y z) else ret false else fail
  | _, _ => fail
/-- a tree lent to a def: made there and then, a slot's -/
inductive Cell where
  | tmp | own (i : Nat) | bor (n : Nat)
def cellOf (i : Nat) (s : S) : Option Cell := match s.g[i]? with
  | some (.v _) => some (.own i)
  | some (.bor n) => some (.bor n)
  | _ => none
mutual
/-- no pointer is part of it -/
def noP : T → Bool
  | .d _ => true
  | .l ts => noPs ts
  | .m kvs => noPk kvs
  | .p _ => false
  | .o _ _ => false
def noPs : List T → Bool
  | [] => true
  | t :: ts => noP t && noPs ts
def noPk : List (Key × T) → Bool
  | [] => true
  | (_, t) :: ts => noP t && noPk ts
end
def isName : Expr → Bool
  | .Name _ _ => true
  | _ => false
/-- the arguments from the left: data, a tree made there and then, trees lent -/
def evArgs (C : Cf) (R : EvK) : List Bool → List Expr → S → Res (List D × List T × List Cell)
  | [], [] => ret ([], [], [])
  | false :: sg, e :: es => if noStar e then bnd (dE R e) fun d => bnd (evArgs C R sg es) fun r => ret (d :: r.1, r.2.1, r.2.2) else fail
  | true :: sg, .Name x _ :: es => (match slotOf C x with
    | some i => bnd (fun s => lift (cellOf i s) s) fun c => bnd (evArgs C R sg es) fun r => if r.2.1.isEmpty then ret (r.1, [], c :: r.2.2) else fail
    | none => fail)
  | true :: sg, e :: es => if noStar e then bnd (R.e e) fun t => bnd (evArgs C R sg es) fun r => if r.2.1.isEmpty then ret (r.1, [t], r.2.2) else fail else fail
  | _, _ => fail
def takeC (c : Cell) (s : S) : Option (T × S) := match c with
  | .tmp => none
  | .own i => (match s.g[i]? with | some (.v t) => some (t, { s with g := s.g.set i .un }) | _ => none)
  | .bor n => (match s.b[n]? with | some (some t) => some (t, { s with b := s.b.set n none }) | _ => none)
def takeCs : List Cell → S → Option (List T × S)
  | [], s => some ([], s)
  | c :: cs, s => (match takeC c s with
    | some (t, s1) => (match takeCs cs s1 with | some (ts, s2) => some (t :: ts, s2) | none => none)
    | none => none)
def putC (c : Cell) (t : T) (s : S) : S := match c with
  | .tmp => s
  | .own i => { s with g := s.g.set i (.v t) }
  | .bor n => { s with b := s.b.set n (some t) }
def putCs : List Cell → List T → S → S
  | c :: cs, t :: ts, s => putC c t (putCs cs ts s)
  | _, _, s => s
def callFn (fn : Fn) (a : List D × List T × List Cell) : S → Res T := fun s => match takeCs a.2.2 s with
  | some (ts, s1) => if noPs (a.2.1 ++ ts) then (match fn.run a.1 (a.2.1 ++ ts) with
    | some (.val r us) => if us.length = a.2.1.length + ts.length then .ok r (putCs a.2.2 (us.drop a.2.1.length) s1) else .bad
    | _ => .bad) else .bad
  | none => .bad
def isiOf (C : Cf) (t : String) : Expr → Option Bool
  | .Name x _ => if isBlt C x then (clsOf x).map (isiD t) else none
  | _ => none
def isiAny (C : Cf) (t : String) : List Expr → Option Bool
  | [] => some false
  | e :: es => (match isiOf C t e, isiAny C t es with
    | some a, some b => some (a || b)
    | _, _ => none)
/-- isinstance of an exception -/
def isiX (C : Cf) (c : Int) : Expr → Option Bool
  | .Name y _ => if isGl C y then C.ex.isi c y else none
  | _ => none
/-- the class of an exception -/
def excOf : D → Option Int
  | .dict ((.none, .int c) :: _) => some c
  | _ => none
/-- isinstance(x, ..) -/
def isiE (C : Cf) (d : D) (e : Expr) : Option Bool := match excOf d with
  | some c => isiX C c e
  | none => (tyD d).bind fun t => match e with
    | .Tuple es _ _ => if es.length ≤ 30 then isiAny C t es else none
    | e => isiOf C t e
/-- an own exception is made -/
def exE (R : EvK) (c : Int) : Option Str → List Expr → S → Res T
  | some f, [a] => if noStar a then bnd (dE R a) fun d => ret (.d (.dict [(.none, .int c), (.str f, d)])) else fail
  | none, [] => ret (.d (.dict [(.none, .int c)]))
  | _, _ => fail
def exK (R : EvK) (c : Int) (f : Option Str) (k : Keyword) (kws : List Keyword) : S → Res T := match f, kws with
  | some f, [] => if k.arg == some f then bnd (dE R k.value) fun d => ret (.d (.dict [(.none, .int c), (.str f, d)])) else fail
  | _, _ => fail
/-- a field of an exception -/
def attD (e : Exs) (f : Str) (d : D) : Option T := match d with
  | .dict ((.none, .int c) :: r) => if e.fld c f then (valD r (.str f)).map T.d else none
  | _ => none
/-- [..] * n -/
def repT : T → D → Option T
  | .l ts, .int j => (match fzs ts with | some ds => if inR j && decide (ds.length * j.toNat ≤ sizeLine) then some (.l ((List.replicate j.toNat ds).flatten.map T.d)) else none | none => none)
  | _, _ => none
def absI (i : Int) : Int := if i < 0 then -i else i
def allD : D → Option T
  | .list ds => (boolsD ds).map fun bs => .d (.bool (bs.all id))
  | _ => none
def intOf : D → Option T
  | .int i => some (.d (.int i))
  | .bool k => some (.d (.int (if k then 1 else 0)))
  | _ => none
/-- built-ins of data -/
def bltD (x : Str) (ds : List D) : Option T :=
  if x = "all" then (match ds with | [d] => allD d | _ => none)
  else if x = "abs" then (match ds with | [.int i] => some (.d (.int (absI i))) | _ => none)
  else if x = "int" then (match ds with | [d] => intOf d | _ => none)
  else if x = "min" then (match ds with | [.int i, .int j] => some (.d (.int (if j < i then j else i))) | _ => none)
  else if x = "max" then (match ds with | [.int i, .int j] => some (.d (.int (if j > i then j else i))) | _ => none)
  else if x = "tuple" then (match ds with | [.list xs] => some (.d (.tuple xs)) | [.tuple xs] => some (.d (.tuple xs)) | _ => none)
  else none
/-- calls of built-ins -/
def bltE (C : Cf) (R : EvK) (x : Str) (args : List Expr) : S → Res T :=
  if x = "len" then (match args with | [a] => bnd (pkE C R a) fun c => lift ((lenD c).map T.d) | _ => fail)
  else if x = "isinstance" then (match args with | [a, T] => bnd (pkE C R a) fun d => lift ((isiE C d T).map fun b => .d (.bool b)) | _ => fail)
  else if x = "list" then (match args with | [a] => bnd (pkE C R a) fun c => lift ((seqD c).map fun ds => .l (ds.map T.d)) | _ => fail)
  else bnd (evd R args) fun ds => lift (bltD x ds)
def notSup : Expr → Bool
  | .Call (.Name _ _) [] [] _ => false
  | _ => true
def strsD : List D → Option (List Str)
  | [] => some []
  | .str x :: r => (match strsD r with | some xs => some (x :: xs) | none => none)
  | _ :: _ => none
/-- methods of texts -/
def methS (m : Str) (a : Str) (ds : List D) : Option T :=
  if m = "split" then (match ds with | [.str b] => if b.length != 0 && decide (a.length + 2 ≤ sizeLine) then some (.l ((Txt.split a b).map fun y => T.d (.str y))) else none | _ => none)
  else if m = "join" then (match ds with
    | [.list xs] => (match strsD xs with | some ys => if (ys.map (·.length)).sum + ys.length * a.length ≤ 16777216 then some (.d (.str (Txt.join a ys))) else none | none => none)
    | _ => none)
  else if m = "strip" then (match ds with | [.str b] => if a.length ≤ sizeLine then some (.d (.str (Txt.stripChars a b))) else none | _ => none)
  else none
def methE (R : EvK) (o : Expr) (m : Str) (ap : Pos) (args : List Expr) (cp : Pos) : S → Res T :=
  if notSup o && args.all noStar && ap.endLine == cp.line && decide (args.length < 28) && !args.isEmpty then
    bnd (dE R o) fun d => (match d with
      | .str a => bnd (evd R args) fun ds => lift (methS m a ds)
      | _ => fail)
  else fail
/-- part of a slice -/
def partE (R : EvK) : Option Expr → S → Res (Option Int)
  | none => ret none
  | some e => bnd (dE R e) fun d => lift ((intD d).map some)
/-- the slots of a comprehension's own names -/
def ownOf (C : Cf) (scope : Scope) : List (Str × Nat) := scope.names.filterMap fun y => match y.2 with
  | .local => (C.N.findIdx? (· == y.1)).map fun i => (y.1, i)
  | .cell => (C.N.findIdx? (· == y.1)).map fun i => (y.1, i)
  | _ => none
def wipeG (g : List Sl) : List Nat → List Sl
  | [] => g
  | v :: vs => (wipeG g vs).set v .un
def backG (g0 g : List Sl) : List Nat → List Sl
  | [] => g
  | v :: vs => (match g0[v]? with | some x => (backG g0 g vs).set v x | none => backG g0 g vs)
def blkCf (C : Cf) (scope : Scope) : Cf := { C with sc := relS scope C.sc, fn := fun x => scope.names.lookup x == some .cell }
def compL (own : List Nat) (asg : D → S → Res Unit) (tst : S → Res Bool) (elt : S → Res D) : List D → List D → S → Res (List D)
  | [], acc => fun s => .ok acc s
  | x :: r, acc => bnd (asg x) fun _ => bnd tst fun b => if b then bnd elt fun d => if acc.length < sizeLine then (fun s => compL own asg tst elt r (acc ++ [d]) { s with g := wipeG s.g own }) else fail
      else fun s => compL own asg tst elt r acc { s with g := wipeG s.g own }
def tests (R : EvK) : List Expr → S → Res Bool
  | [] => ret true
  | [c] => R.t c
  | _ => fail
/-- the slots of a target are among these -/
def tgIn (C : Cf) (own : List Nat) : Nat → Expr → Bool
  | 0, _ => false
  | n + 1, tg => match tg with
    | .Name x _ => (match locOf C x with | some i => own.contains i | none => false)
    | .Tuple es _ _ => es.all (tgIn C own n)
    | .Starred e _ => tgIn C own n e
    | _ => false
/-- none of these slots holds anything that is a tree -/
def noOwn (g : List Sl) (own : List Nat) : Bool := own.all fun v => match g[v]? with
  | some (.v (.d _)) => true
  | some .un => true
  | _ => false
def stepE (RC : Cf → EvK) (C : Cf) (e : Expr) : S → Res T := match e with
  | .Constant (.int i) _ _ => ret (.d (.int i))
  | .Constant (.str x) _ _ => ret (.d (.str x))
  | .Constant (.bool b) _ _ => ret (.d (.bool b))
  | .Constant .none _ _ => ret (.d .none)
  | .Name x _ => bnd (evName C x) fun d => ret (.d d)
  | .BinOp (.List es lp) .Mult b _ => bnd ((RC C).e (.List es lp)) fun t => bnd (dE (RC C) b) fun y => lift (repT t y)
  | .BinOp a op b _ => opE C (RC C) a b (binD op)
  | .UnaryOp .Not a _ => bnd (dE (RC C) a) fun x => lift ((boolD x).map fun c => T.d (.bool (!c)))
  | .UnaryOp .USub a _ => bnd (dE (RC C) a) fun x => lift ((negD x).map T.d)
  | .BoolOp .And es _ => andV (RC C) es
  | .BoolOp .Or es _ => orV (RC C) es
  | .Compare a ops bs _ => bnd (cmpE C (RC C) a ops bs) fun k => ret (.d (.bool k))
  | .IfExp c a b _ => bnd ((RC C).t c) fun k => if k then (RC C).e a else (RC C).e b
  | .Tuple es _ _ => if es.all noStar then bnd (evd (RC C) es) fun ds => lift (if ds.length ≤ sizeLine then some (.d (.tuple ds)) else none) else fail
  | .List es _ => if es.all noStar then (if es.all isTree then bnd (evs (RC C) es) fun ts => lift (if ts.length ≤ sizeLine then some (.l ts) else none)
      else bnd (evd (RC C) es) fun ds => lift (if ds.length ≤ sizeLine then some (.l (ds.map T.d)) else none)) else fail
  | .ListComp elt [⟨tg, iter, ifs, 0⟩] scope _ => if notSet iter && blkC C.N C.sc scope (ownOf C scope) && tgIn (blkCf C scope) ((ownOf C scope).map (·.2)) 6 tg then
      bnd ((RC C).it tg iter) fun ds s => if noOwn s.g ((ownOf C scope).map (·.2)) then
        (match compL ((ownOf C scope).map (·.2)) ((RC (blkCf C scope)).asg tg) (tests (RC (blkCf C scope)) ifs) (dE (RC (blkCf C scope)) elt) ds [] { s with g := wipeG s.g ((ownOf C scope).map (·.2)) } with
        | .ok acc s' => .ok (.l (acc.map T.d)) { s' with g := backG s.g s'.g ((ownOf C scope).map (·.2)) }
        | .exc _ _ => .bad
        | .bad => .bad) else .bad
      else fail
  | .Subscript a (.Slice lo hi none _) _ => (match a with
      | .Name x _ => (match slotOf C x with
        | some j => bnd (pkS j) fun _ => bnd (partE (RC C) lo) fun l => bnd (partE (RC C) hi) fun h => bnd (pkS j) fun c => lift (sliceD c l h)
        | none => bnd (dE (RC C) a) fun c => bnd (partE (RC C) lo) fun l => bnd (partE (RC C) hi) fun h => lift (sliceD c l h))
      | _ => bnd (dE (RC C) a) fun c => bnd (partE (RC C) lo) fun l => bnd (partE (RC C) hi) fun h => lift (sliceD c l h))
  | .Subscript a i q => if notSlice i then fun s => (match (plc C s (.Subscript a i q)).bind (getAt s) with
      | some (.d d) => .ok (.d d) s
      | _ => (match a with
        | .Name x _ => (match slotOf C x with
          | some j => bnd (pkS j) fun _ => bnd (dE (RC C) i) fun k => bnd (pkS j) fun c => lift ((ixD c k).map T.d)
          | none => (match C.gd x with
            | some kvs => if isGl C x then bnd (dE (RC C) i) fun k => lift (match k with | .str z => (kvs.lookup z).map .d | _ => none) else fail
            | none => bnd (dE (RC C) a) fun c => bnd (dE (RC C) i) fun k => lift ((ixD c k).map T.d)))
        | _ => bnd (dE (RC C) a) fun c => bnd (dE (RC C) i) fun k => lift ((ixD c k).map T.d)) s) else fail
  | .Call (.Name x p) args [] q => if isBlt C x then (if args.all noStar then bltE C (RC C) x args else fail)
      else if isGl C x then (match C.ex.made x with
        | some (c, fo) => exE (RC C) c fo args
        | none => (match C.fns x args.length [] with
          | some fn => bnd (evArgs C (RC C) fn.sig args) (callFn fn)
          | none => fail))
      else fail
  | .Call (.Name x _) [] (k :: kws) _ => if isBlt C x then fail else if isGl C x then (match C.ex.made x with
        | some (c, fo) => exK (RC C) c fo k kws
        | none => (match C.fns x 0 ((k :: kws).filterMap (·.arg)) with
          | some fn => if (k :: kws).all (·.arg.isSome) && fn.sig.all (!·) then bnd (evArgs C (RC C) fn.sig ((k :: kws).map (·.value))) (callFn fn) else fail
          | none => fail))
      else fail
  | .Attribute a f _ => if notSup a then bnd (dE (RC C) a) fun d => lift (attD C.ex f d) else fail
  | .Call (.Attribute o m ap) args [] cp => methE (RC C) o m ap args cp
  | _ => fail
def stepT (RC : Cf → EvK) (C : Cf) (e : Expr) : S → Res Bool := match e with
  | .BoolOp .And es _ => andT (RC C) es
  | .BoolOp .Or es _ => orT (RC C) es
  | .UnaryOp .Not a _ => bnd ((RC C).t a) fun c => ret (!c)
  | .Compare a ops bs _ => cmpE C (RC C) a ops bs
  | .IfExp _ _ _ _ => fail
  | e => bnd (dE (RC C) e) fun d => lift (truthD d)
/-- what a for or a comprehension walks, item by item -/
def stepI (RC : Cf → EvK) (C : Cf) (tg iter : Expr) : S → Res (List D) := match iter with
  | .Call (.Name x p) args [] q => if isBlt C x && args.all noStar then
      (if x = "range" then (match args with
        | [a] => bnd (dE (RC C) a) fun d => lift ((intD d).bind fun j => if inR j then some ((List.range j.toNat).map fun i => .int (0 + (i : Nat))) else none)
        | [a, b] => bnd (dE (RC C) a) fun d => bnd (dE (RC C) b) fun d' => lift ((intD d).bind fun i => (intD d').bind fun j => if inR i && inR j then some ((List.range (j - i).toNat).map fun k => .int (i + (k : Nat))) else none)
        | _ => fail)
      else if x = "enumerate" then (match tg, args with
        | .Tuple _ _ _, [a] => bnd (dE (RC C) a) fun d => lift (match d with | .list xs => some ((List.range xs.length).zipWith (fun i x => .tuple [.int (i : Nat), x]) xs) | _ => none)
        | _, _ => fail)
      else if x = "zip" then (match tg, args with
        | .Tuple _ _ _, [a, b] => bnd (dE (RC C) a) fun d => bnd (dE (RC C) b) fun d' => lift (match d, d' with
          | .list xs, .list ys => some (List.zipWith (fun x y => .tuple [x, y]) xs ys)
          | .tuple xs, .tuple ys => some (List.zipWith (fun x y => .tuple [x, y]) xs ys)
          | _, _ => none)
        | _, _ => fail)
      else bnd (dE (RC C) (.Call (.Name x p) args [] q)) fun d => lift (seqD d))
      else bnd (dE (RC C) (.Call (.Name x p) args [] q)) fun d => lift (seqD d)
  | iter => bnd (dE (RC C) iter) fun d => lift (seqD d)
/-- a target takes data -/
def asgs (f : Expr → D → S → Res Unit) : List Expr → List D → S → Res Unit
  | [], [] => ret ()
  | t :: ts, d :: ds => bnd (f t d) fun _ => asgs f ts ds
  | _, _ => fail
/-- a, b, *c: the plain ones, the last one's name -/
def splitStar : List Expr → Option (List Expr × Expr)
  | [] => none
  | [.Starred t _] => some ([], t)
  | e :: es => if noStar e then (splitStar es).map fun r => (e :: r.1, r.2) else none
/-- an item is stored -/
def putD (k d : D) : T → Option (D × T)
  | .l ts => (intD k).bind fun z => (ixN ts.length z).map fun m => (.none, .l (ts.set m (.d d)))
  | _ => none
def stepA (RC : Cf → EvK) (C : Cf) (tg : Expr) (d : D) : S → Res Unit := match tg with
  | .Name x _ => (match locOf C x with | some i => setT i (.d d) | none => fail)
  | .Tuple es _ _ => if es.all noStar then (match d with
      | .tuple ds => asgs (RC C).asg es ds
      | .list ds => asgs (RC C).asg es ds
      | _ => fail) else (match splitStar es, seqD d with
      | some (pre, t), some ds => if pre.length ≤ ds.length then bnd (asgs (RC C).asg pre (ds.take pre.length)) fun _ => (RC C).asg t (.list (ds.drop pre.length)) else fail
      | _, _ => fail)
  | .Subscript (.Name x _) i _ => if notSlice i then (match slotOf C x with
      | some j => bnd (pkS j) fun _ => bnd (dE (RC C) i) fun k => bnd (chP (j, []) (putD k d)) fun _ => ret ()
      | none => fail) else fail
  | .Subscript (.Subscript a i q) (.Constant (.int z) _ _) _ => fun s => (match plc C s (.Subscript a i q) with
      | some p => bnd (chP p (putD (.int z) d)) (fun _ => ret ()) s
      | none => .bad)
  | _ => fail
def badK : EvK := ⟨fun _ => fail, fun _ => fail, fun _ _ => fail, fun _ _ => fail⟩
def step (RC : Cf → EvK) (C : Cf) : EvK := ⟨stepE RC C, stepT RC C, stepI RC C, stepA RC C⟩
def EV : Nat → Cf → EvK
  | 0 => fun _ => badK
  | n + 1 => step (EV n)

/-! ### statements -/
inductive Fl where
  | nx | rt (t : T) | brk | cnt
def isComp : Expr → Bool
  | .ListComp _ _ _ _ => true
  | .SetComp _ _ _ _ => true
  | .DictComp _ _ _ _ _ => true
  | _ => false
def locNm (sc : Scope) (line : Nat) : Expr → Bool
  | .Name id pos => sc.names.lookup id == some .local && pos.line == line
  | _ => false
def headLine (ts : List Expr) : Nat := (ts.head?.map (·.pos.line)).getD 0
/-- which names are stored from the right (the compiler's swap of two or three plain names); none: not served -/
def swC (sc : Scope) (tg value : Expr) : Option (Option (List Str)) := match tg, value with
  | .Tuple ts _ _, .Tuple vs _ _ => if ts.all (locNm sc (headLine ts)) then (match ts, vs with
      | [.Name x _, .Name y _], [a, b] => if !(x == y) && noStar a && noStar b && !(foldedForSure 8 a && foldedForSure 8 b) && !(constantsAlone 8 a && constantsAlone 8 b) then some (some [x, y]) else none
      | [.Name x _, .Name y _, .Name z _], [a, b, c] => if !(x == y) && !(x == z) && !(y == z) && noStar a && noStar b && noStar c && !(foldedForSure 8 a && (foldedForSure 8 b && foldedForSure 8 c)) && !(constantsAlone 8 a && (constantsAlone 8 b && constantsAlone 8 c)) then some (some [x, y, z]) else none
      | _, _ => none) else some none
  | .Tuple _ _ _, _ => some none
  | .Subscript _ _ _, _ => some none
  | _, _ => none
/-- stores plain names -/
def setNm (C : Cf) : List Str → List T → S → Res Unit
  | [], [] => ret ()
  | x :: xs, d :: ds => bnd (match locOf C x with | some i => setT i d | none => fail) fun _ => setNm C xs ds
  | _, _ => fail
def seqS (f : Stmt → S → Res Fl) : List Stmt → S → Res Fl
  | [] => ret .nx
  | st :: r => bnd (f st) fun fl => match fl with
    | .nx => seqS f r
    | .rt d => ret (.rt d)
    | .brk => ret .brk
    | .cnt => ret .cnt
def forL (asg : D → S → Res Unit) (body : S → Res Fl) : List D → S → Res Fl
  | [] => ret .nx
  | d :: r => bnd (asg d) fun _ => bnd body fun fl => match fl with
    | .nx => forL asg body r
    | .cnt => forL asg body r
    | .brk => ret .nx
    | .rt d => ret (.rt d)
def whileL (c : S → Res Bool) (body : S → Res Fl) : Nat → S → Res Fl
  | 0 => fail
  | n + 1 => bnd c fun k => if k then bnd body fun fl => match fl with
    | .nx => whileL c body n
    | .cnt => whileL c body n
    | .brk => ret .nx
    | .rt d => ret (.rt d) else ret .nx
def appD (d : D) : T → Option (D × T)
  | .l ts => if ts.length < sizeLine then some (.none, .l (ts ++ [.d d])) else none
  | _ => none
/-- a list stands there -/
def isLst (i : Nat) : S → Res Unit := fun s => match root i s with
  | some (.l _) => .ok () s
  | _ => .bad
/-- a slot's tree is handed back -/
def outS (i : Nat) : S → Res T := fun s => match s.g[i]? with
  | some (.v t) => .ok t { s with g := s.g.set i .un }
  | _ => .bad
def stepS (R : EvK) (X : Stmt → S → Res Fl) (C : Cf) (st : Stmt) : S → Res Fl := match st with
  | .Pass _ => ret .nx
  | .Break _ => ret .brk
  | .Continue _ => ret .cnt
  | .Return none _ => ret (.rt (.d .none))
  | .Return (some e) _ => (match e with
        | .Name x p => (match slotOf C x with
          | some i => bnd (outS i) fun t => ret (.rt t)
          | none => bnd (R.e (.Name x p)) fun t => ret (.rt t))
        | _ => bnd (R.e e) fun t => ret (.rt t))
  | .If c a b _ => bnd (R.t c) fun k => if k then seqS X a else seqS X b
  | .For tg it body [] _ => if notSet it then bnd (R.it tg it) fun ds => forL (R.asg tg) (seqS X body) ds else fail
  | .While c body [] _ => whileL (R.t c) (seqS X body) C.wf
  | .Assign [.Name x p] e q => (match locOf C x with
      | some i => if isComp e then (match e with
            | .ListComp elt gs scope pos => if (C.sc.names.lookup x == some .local && p.line == pos.line && !(scope.names.any fun (n, k) => n == x && (k == .local || k == .cell))) || C.sc.names.lookup x == some .cell then
                bnd (R.e (.ListComp elt gs scope pos)) fun t => bnd (setT i t) fun _ => ret .nx else fail
            | _ => fail)
          else bnd (R.e e) fun t => bnd (setT i t) fun _ => ret .nx
      | none => fail)
  | .Assign [tg] e _ => if isComp e then fail else (match swC C.sc tg e with
      | none => fail
      | some none => bnd (dE R e) fun d => bnd (R.asg tg d) fun _ => ret .nx
      | some (some names) => (match e with
        | .Tuple es _ _ => bnd (evs R es) fun ds => bnd (setNm C names ds) fun _ => ret .nx
        | _ => fail))
  | .AugAssign (.Name x _) op e _ => (match slotOf C x, locOf C x with
      | some i, some j => if i = j then bnd (rdS i) fun d => bnd (dE R e) fun d' => bnd (lift (augD op d d')) fun r => bnd (setT i (.d r)) fun _ => ret .nx else fail
      | _, _ => fail)
  | .Expr (.Constant (.str _) _ _) _ => ret .nx
  | .Expr (.Call (.Attribute (.Name x _) m ap) [a] [] cp) _ => if m = "append" && ap.endLine == cp.line && noStar a then (match slotOf C x with
      | some i => bnd (isLst i) fun _ => bnd (dE R a) fun d => bnd (chP (i, []) (appD d)) fun _ => ret .nx
      | none => fail) else fail
  | .Expr (.Call (.Name x p) args kws q) _ => bnd (R.e (.Call (.Name x p) args kws q)) fun _ => ret .nx
  | _ => fail
def EX (C : Cf) : Nat → Stmt → S → Res Fl
  | 0 => fun _ => fail
  | n + 1 => stepS (EV (n + 1) C) (EX C n) C
/-- a def's body -/
def startG : List Bool → List D → Nat → List Sl
  | [], _, _ => []
  | true :: sg, ds, k => .bor k :: startG sg ds (k + 1)
  | false :: sg, d :: ds, k => .v (.d d) :: startG sg ds k
  | false :: sg, [], k => .un :: startG sg [] k
def startS (n : Nat) (sig : List Bool) (ds : List D) (cs : List T) : S := ⟨startG sig ds 0 ++ List.replicate (n - sig.length) .un, cs.map some⟩
/-- all cells are filled -/
def cells : List (Option T) → Option (List T)
  | [] => some []
  | some t :: r => (cells r).map (t :: ·)
  | none :: _ => none
def runBody (n : Nat) (C : Cf) (fn : Fn) (body : List Stmt) (ds : List D) (cs : List T) : Option Rv := match seqS (EX C n) body (startS C.N.length fn.sig ds cs) with
  | .ok .nx s => (match cells s.b with | some b => if noPs b then some (.val (.d .none) b) else none | none => none)
  | .ok (.rt t) s => (match cells s.b with | some b => if noP t && noPs b then some (.val t b) else none | none => none)
  | .ok _ _ => none
  | .exc x s => (match cells s.b with | some b => some (.exc x b) | none => none)
  | .bad => none
end Nw
end

set_option Elab.async false
set_option linter.all false
set_option maxRecDepth 100000
set_option maxHeartbeats 4000000
noncomputable section
namespace Nw
open PySem L2
section
variable {X : Cx}
def EvE (X : Cx) (e : Expr) : TE := fun σ H Q => ∀ (pins : List (Addr × Obj)) (s : Shared), Inv X pins σ H s → wpAny (model X.prog X.w) X.A (eval e X.env) (EP X pins σ Q) X.xe s
def EvT (X : Cx) (e : Expr) : TT := fun σ H Q => ∀ (pins : List (Addr × Obj)) (s : Shared), Inv X pins σ H s → wpAny (model X.prog X.w) X.A (isTrue e X.env (eval e X.env)) (TP X pins σ Q) X.xe s
def EvG (X : Cx) (tg : Expr) : TG := fun v σ H Q => ∀ (pins : List (Addr × Obj)) (s : Shared) (u : Value), Inv X pins σ H s → RelV v u → wpAny (model X.prog X.w) X.A (assign tg X.env u) (fun _ s' => ∃ σ' H', Inv X pins σ' H' s' ∧ Q σ' H') X.xe s
def EvI (X : Cx) (tg iter : Expr) : TI := fun σ H R => ∀ (pins : List (Addr × Obj)) (s : Shared), Inv X pins σ H s → wpAny (model X.prog X.w) X.A (eval iter X.env) (fun v s1 => wpAny (model X.prog X.w) X.A (pyIter v) (PIE X pins σ tg R) X.xe s1) X.xe s
def EvS (X : Cx) (st : Stmt) : TS := fun D σ H => ∀ (pins : List (Addr × Obj)) (s : Shared), Inv X pins σ H s → wpAny (model X.prog X.w) X.A (exec st X.env) (SP X pins D) X.xe s
def EvSs (X : Cx) (st : List Stmt) : TS := fun D σ H => ∀ (pins : List (Addr × Obj)) (s : Shared), Inv X pins σ H s → wpAny (model X.prog X.w) X.A (execs st X.env) (SP X pins D) X.xe s
theorem pe_w (e : Expr) : PE X e (EvE X e) := ⟨fun pins s _ _ _ I h => h pins s I⟩
theorem pt_w (e : Expr) : PT X e (EvT X e) := ⟨fun pins s _ _ _ I h => h pins s I⟩
theorem pg_w (e : Expr) : PG X e (EvG X e) := ⟨fun pins s _ _ _ u _ I r h => h pins s u I r⟩
theorem pi_w (tg e : Expr) : PI X tg e (EvI X tg e) := ⟨fun pins s _ _ _ I h => h pins s I⟩
theorem ps_w (st : Stmt) : PS X st (EvS X st) := ⟨fun pins s _ _ _ I h => h pins s I⟩
theorem pss_w (st : List Stmt) : PSs X st (EvSs X st) := ⟨fun pins s _ _ _ I h => h pins s I⟩
theorem ofPE {e : Expr} {t : TE} {σ : St} {H : Hp} {Q : VK} (h : PE X e t) (w : t σ H Q) : EvE X e σ H Q := fun pins s I => h.run pins s σ H Q I w
theorem ofPT {e : Expr} {t : TT} {σ : St} {H : Hp} {Q : Bool → Hp → Prop} (h : PT X e t) (w : t σ H Q) : EvT X e σ H Q := fun pins s I => h.run pins s σ H Q I w
theorem ofPG {e : Expr} {t : TG} {v : V} {σ : St} {H : Hp} {Q : St → Hp → Prop} (h : PG X e t) (w : t v σ H Q) : EvG X e v σ H Q := fun pins s u I r => h.run pins s σ H v u Q I r w
theorem ofPI {tg e : Expr} {t : TI} {σ : St} {H : Hp} {R : It → Hp → Prop} (h : PI X tg e t) (w : t σ H R) : EvI X tg e σ H R := fun pins s I => h.run pins s σ H R I w
theorem ofPS {e : Stmt} {t : TS} {σ : St} {H : Hp} {Q : Ends} (h : PS X e t) (w : t Q σ H) : EvS X e Q σ H := fun pins s I => h.run pins s σ H Q I w
theorem ofPSs {e : List Stmt} {t : TS} {σ : St} {H : Hp} {Q : Ends} (h : PSs X e t) (w : t Q σ H) : EvSs X e Q σ H := fun pins s I => h.run pins s σ H Q I w
/-- the state's own facts may be used -/
theorem EvE.inv {e : Expr} {σ : St} {H : Hp} {Q : VK} (h : (∃ pins s, Inv X pins σ H s) → EvE X e σ H Q) : EvE X e σ H Q := fun pins s I => h ⟨pins, s, I⟩ pins s I
end

/-! ### what is promised of a def -/
inductive ArgsR (K : PySem.W.Frag) (I : Hp) : List Bool → List V → List D → List V → Prop where
  | nil : ArgsR K I [] [] [] []
  | dat {sg : List Bool} {v : V} {vs : List V} {d : D} {ds : List D} {bs : List V} : Dt K I v d → ArgsR K I sg vs ds bs → ArgsR K I (false :: sg) (v :: vs) (d :: ds) bs
  | bor {sg : List Bool} {v : V} {vs : List V} {ds : List D} {bs : List V} : ArgsR K I sg vs ds bs → ArgsR K I (true :: sg) (v :: vs) ds (v :: bs)
def spF (K : PySem.W.Frag) (fn : Fn) : Sp := fun vs H Q _ => ∃ (I : Hp) (ds : List D) (bs : List V) (cs : List T) (ff : List Addr) (r : T) (cs' : List T),
  ArgsR K I fn.sig vs ds bs ∧ Same I H ∧ TRs K [] I H bs cs ff ∧ ff.Nodup ∧ (∀ a ∈ ff, I a = none) ∧ fn.run ds cs = some (.val r cs') ∧
  ∀ v I' H' fg, Same I I' → Same I' H' → (∀ a o, a ∉ ff → H a = some o → H' a = some o) → (∀ a o, H a = some o → I a = none → a ∉ ff → I' a = none) →
    TRs K [] I' H' (v :: bs) (r :: cs') fg → fg.Nodup → (∀ a ∈ fg, I' a = none ∧ (H a = none ∨ a ∈ ff)) → Q v H'
inductive FnAt (P : Program) (w : World) (K : PySem.W.Frag) (mg : Str → Option Value) (base : Heap) (k : Nat) (x : Str) (n : Nat) : List Str → Fn → Prop where
  | pos {fn : Fn} {f : Addr} {fd : FuncData} {ps : List Str} {sp : Sp} {ds : List Value} {dvs : List V} : mg x = some (.ref f) → PySem.W.keepIn K (.ref f) = true → FnOk P w K mg base CX0 k f fd ps sp → Binds K fd ps ds → Vals dvs ds →
      fn.sig.length = n → (∀ vs H Q E, spF K fn vs H Q E → sp (vs ++ dvs) H Q E) → FnAt P w K mg base k x n [] fn
  | kw {fn : Fn} {f : Addr} {fd : FuncData} {ps : List Str} {sp : Sp} {ks : List Str} {g : List Value → List Value → List Value} {gV : List V → List V → List V} : mg x = some (.ref f) → PySem.W.keepIn K (.ref f) = true → FnOk P w K mg base CX0 k f fd ps sp →
      KBn K fd ps n ks g gV → n = 0 → ks ≠ [] → fn.sig = ks.map (fun _ => false) → (∀ zs H Q E, spF K fn zs H Q E → sp (gV [] zs) H Q E) → FnAt P w K mg base k x n ks fn
/-- what stands behind the table of exceptions -/
structure ExOk (P : Program) (w : World) (K : PySem.W.Frag) (mg : Str → Option Value) (base : Heap) (k : Nat) (e : Exs) : Prop where
  made : ∀ x c fo, e.made x = some (c, fo) → 2 ≤ k ∧ ∃ Ca : Addr, c = (Ca : Int) ∧ ExM P w K mg base x Ca fo
  isi : ∀ c y r, e.isi c y = some r → ∃ (Ca : Addr) (b : Ba) (v : V) (u : Value), c = (Ca : Int) ∧ ExC K Ca b ∧ ClsV v u ∧ RelV v u ∧ (mg y = some u ∨ (mg y = none ∧ bootBuiltins y = some u ∧ y ≠ "__name__")) ∧ PySem.W.kitOne K (.ref Ca) u = some r
  fld : ∀ c f, e.fld c f = true → ∃ (Ca : Addr) (b : Ba), c = (Ca : Int) ∧ ExC K Ca b ∧ PySem.W.findIn K (.ref Ca) f = some none
structure CtxOk (k : Nat) (C : Cf) (X : Cx) : Prop where
  N : X.N = C.N
  sc : X.env.scope = C.sc
  kind : C.sc.kind = .function
  nd : C.N.Nodup
  calm : X.calm = true
  room : Room k X.A
  fn : ∀ x, C.fn x = true → X.fn x = true
  blt : ∀ x, C.blt x = true → X.mg x = none
  gl : ∀ x d, C.gl x = some d → ∃ v u, X.mg x = some u ∧ RelV v u ∧ ∀ I, Dt X.K I v d
  gd : ∀ x kvs, C.gd x = some kvs → ∃ a : Addr, X.mg x = some (.ref a) ∧ ∀ z d, kvs.lookup z = some d → ∃ v, KDct X.K X.w a z v ∧ ∀ I, Dt X.K I v d
  fns : ∀ x n ks fn, C.fns x n ks = some fn → FnAt X.prog X.w X.K X.mg X.base k x n ks fn
  ex : ExOk X.prog X.w X.K X.mg X.base k C.ex

/-! ### what soundness says -/
def SndE (X : Cx) (e : Expr) (m : S → Res T) : Prop := ∀ s t s', m s = .ok t s' → ∀ (F : Fx) (I H : Hp) (σ : St) (Q : VK), Rel X.K F I H σ s →
  (∀ v I' H', Same I I' → Rel X.K (F.push v t) I' H' σ s' → Q v H') → EvE X e σ H Q
def SndD (X : Cx) (e : Expr) (m : S → Res D) : Prop := ∀ s d s', m s = .ok d s' → ∀ (F : Fx) (I H : Hp) (σ : St) (Q : VK), Rel X.K F I H σ s →
  (∀ v I' H', Same I I' → Rel X.K F I' H' σ s' → Dt X.K I' v d → Q v H') → EvE X e σ H Q
def SndT (X : Cx) (e : Expr) (m : S → Res Bool) : Prop := ∀ s b s', m s = .ok b s' → ∀ (F : Fx) (I H : Hp) (σ : St) (Q : Bool → Hp → Prop), Rel X.K F I H σ s →
  (∀ I' H', Same I I' → Rel X.K F I' H' σ s' → Q b H') → EvT X e σ H Q
def Walk (K : PySem.W.Frag) (J : It) (I : Hp) (ds : List D) : Prop := ∀ (i : Nat) (I2 H2 : Hp), Same I I2 → Same I2 H2 →
  (∀ d, ds[i]? = some d → J.go i H2 ∧ ∀ x H3, J.yld i H2 x H3 → (H3 = H2 ∧ Dt K I2 x d) ∨ ∃ T o, H2 T = none ∧ H3 = upd H2 T o ∧ Dt K (upd I2 T o) x d) ∧ (ds.length ≤ i → J.stop i H2)
def SndI (X : Cx) (tg iter : Expr) (m : S → Res (List D)) : Prop := ∀ s ds s', m s = .ok ds s' → ∀ (F : Fx) (I H : Hp) (σ : St) (R : It → Hp → Prop), Rel X.K F I H σ s →
  (∀ J I' H', Same I I' → Rel X.K F I' H' σ s' → Walk X.K J I' ds → R J H') → EvI X tg iter σ H R
def SndA (C : Cf) (X : Cx) (tg : Expr) (m : D → S → Res Unit) : Prop := ∀ d s s', m d s = .ok () s' → ∀ (F : Fx) (I H : Hp) (σ : St) (v : V) (Q : St → Hp → Prop), Rel X.K F I H σ s → Dt X.K I v d →
  (∀ I' H' σ', Same I I' → Rel X.K F I' H' σ' s' → σ'.length = σ.length → (∀ own m, tgIn C own m tg = true → ∀ (j : Nat), j ∉ own → σ'[j]? = σ[j]?) → Q σ' H') → EvG X tg v σ H Q
structure Snd (C : Cf) (X : Cx) (R : EvK) : Prop where
  e : ∀ e, SndE X e (R.e e)
  t : ∀ e, SndT X e (R.t e)
  it : ∀ tg it, SndI X tg it (R.it tg it)
  asg : ∀ tg, SndA C X tg (R.asg tg)
/-! ### names -/
section
variable {k : Nat} {C : Cf} {X : Cx} {R : EvK}
theorem findIdx_get {N : List Str} {x : Str} {i : Nat} (h : N.findIdx? (· == x) = some i) : N[i]? = some x := by
  obtain ⟨h1, h2, _⟩ := List.findIdx?_eq_some_iff_getElem.mp h
  rw [List.getElem?_eq_getElem h1, eq_of_beq h2]
theorem slotOf_ok (cx : CtxOk k C X) {x : Str} {i : Nat} (h : slotOf C x = some i) : X.N[i]? = some x ∧ Vis X.env.scope x ∧ (x == ("__debug__" : Str)) = false ∧ (x == ("__classdict__" : Str)) = false := by
  unfold slotOf at h
  have go : (if okName x then C.N.findIdx? (· == x) else none) = some i → X.N[i]? = some x ∧ (x == ("__debug__" : Str)) = false ∧ (x == ("__classdict__" : Str)) = false := fun h => by
    by_cases q : okName x = true
    · rw [if_pos q] at h
      unfold okName at q
      rw [Bool.and_eq_true] at q
      obtain ⟨q1, q2⟩ := q
      exact ⟨by rw [cx.N]; exact findIdx_get h, by simpa using q1, by simpa using q2⟩
    · rw [if_neg q] at h; cases h
  unfold Vis
  rw [cx.sc]
  split at h
  · rename_i e; obtain ⟨a, b, c⟩ := go h; exact ⟨a, .inl e, b, c⟩
  · rename_i e; obtain ⟨a, b, c⟩ := go h; exact ⟨a, .inr (.inl e), b, c⟩
  · rename_i e; obtain ⟨a, b, c⟩ := go h; exact ⟨a, .inr (.inr e), b, c⟩
  · cases h
theorem locOf_ok (cx : CtxOk k C X) {x : Str} {i : Nat} (h : locOf C x = some i) : X.N[i]? = some x ∧ Loc X.env.scope x ∧ (X.fn x = true ∨ X.env.scope.names.lookup x = some .local) := by
  unfold locOf at h
  unfold L2.Loc
  rw [cx.sc]
  split at h
  · rename_i e; exact ⟨by rw [cx.N]; exact findIdx_get h, .inl e, .inr e⟩
  · rename_i e
    by_cases q : C.fn x = true
    · rw [if_pos q] at h
      exact ⟨by rw [cx.N]; exact findIdx_get h, .inr e, .inl (cx.fn x q)⟩
    · rw [if_neg q] at h; cases h
  · cases h
theorem isGl_ok (cx : CtxOk k C X) {x : Str} (h : isGl C x = true) : Gl X x ∧ (x == ("__debug__" : Str)) = false := by
  unfold isGl at h
  rw [Bool.and_eq_true] at h
  obtain ⟨h1, h2⟩ := h
  refine ⟨?_, by simpa using h2⟩
  unfold Gl Env.kindOf
  rw [cx.sc]
  split at h1
  · assumption
  · cases h1
theorem isBlt_ok (cx : CtxOk k C X) {x : Str} (h : isBlt C x = true) : Gl X x ∧ (x == ("__debug__" : Str)) = false ∧ X.mg x = none ∧ x ≠ "__name__" := by
  unfold isBlt at h
  rw [Bool.and_eq_true, Bool.and_eq_true] at h
  obtain ⟨⟨h1, h2⟩, h3⟩ := h
  obtain ⟨a, b⟩ := isGl_ok cx h1
  refine ⟨a, b, cx.blt x h2, fun z => ?_⟩
  subst z
  simp at h3
theorem pe_slot (cx : CtxOk k C X) {x : Str} {i : Nat} {pos : Pos} (h : slotOf C x = some i) : PE X (.Name x pos) (tVar i) := by
  obtain ⟨a, b, c, d⟩ := slotOf_ok cx h
  exact pe_var a b c d

/-- data that nobody holds as yet -/
theorem Rel.popD {K : PySem.W.Frag} {F : Fx} {I H : Hp} {σ : St} {s : S} {v : V} {d : D} (R : Rel K (F.push v (.d d)) I H σ s) : Rel K F I H σ s ∧ Dt K I v d := by
  refine ⟨R.pop, ?_⟩
  obtain ⟨ow, R⟩ := R
  obtain ⟨fp, h, _⟩ := R.hold (.t F.ts.length) v (.d d) (by show (F.ts ++ [(v, T.d d)])[F.ts.length]? = some (v, .d d); simp)
  cases h with | d h => exact h
theorem snd_dE {R : EvK} (sn : ∀ e, SndE X e (R.e e)) (e : Expr) : SndD X e (dE R e) := by
  intro s d s' hm F I H σ Q Rl q
  obtain ⟨t, s1, h1, h2⟩ := bnd_ok hm
  obtain ⟨h3, rfl⟩ := lift_ok h2
  refine sn e s t _ h1 F I H σ Q Rl fun v I' H' a b => ?_
  obtain ⟨I2, k1, k2, k3⟩ := b.freeze h3
  exact q v I2 H' (a.trans k1) k2 k3
theorem sndE_of {e : Expr} {m : S → Res D} (h : SndD X e m) : SndE X e (bnd m fun d => ret (.d d)) := by
  intro s t s' hm F I H σ Q Rl q
  obtain ⟨d, s1, h1, h2⟩ := bnd_ok hm
  obtain ⟨rfl, rfl⟩ := ret_ok h2
  exact h s d s' h1 F I H σ Q Rl fun v I' H' a b c => q v I' H' a (b.pushD c)
theorem snd_rdS (cx : CtxOk k C X) {x : Str} {i : Nat} {pos : Pos} (h : slotOf C x = some i) : SndD X (.Name x pos) (rdS i) := by
  intro s d s' hm F I H σ Q R q
  refine ofPE (pe_slot cx h) ?_
  unfold rdS at hm
  split at hm
  · rename_i d' e
    cases hm
    obtain ⟨v, h1⟩ := R.val i _ e
    obtain ⟨fp, h2, _⟩ := R.hold (p := .s i) ⟨h1, e⟩
    cases h2 with | d h2 => exact ⟨v, h1, q v I H (Same.refl I) R h2⟩
  · rename_i t _ e
    split at hm
    · rename_i d' hf
      cases hm
      obtain ⟨v, h1, R1⟩ := R.outS e
      obtain ⟨I', k1, k2, k3⟩ := R1.freeze hf
      have R2 := k2.setD i k3
      rw [setSame h1] at R2
      refine ⟨v, h1, q v I' H k1 ?_ k3⟩
      have e2 : ({ s with g := s.g.set i Sl.un } : S).g.set i (.v (.d d)) = s.g.set i (.v (.d d)) := by
        show (s.g.set i Sl.un).set i (.v (.d d)) = _
        rw [List.set_set]
      rw [e2] at R2
      exact R2
    · cases hm
  · cases hm
/-- a value whose list or dict, if it is one, stands in the heap as it is now -/
inductive Pk (K : PySem.W.Frag) (I H : Hp) : V → D → Prop where
  | dat {v : V} {d : D} : Dt K I v d → Pk K I H v d
  | lst {a : Addr} {vs : List V} {ds : List D} : H a = some (.lst vs) → DtAll K I vs ds → Pk K I H (.ref a) (.list ds)
  | dct {a : Addr} {vs : List (Key × V)} {ds : List (D × D)} : H a = some (.dK vs) → DtK K I vs ds → Pk K I H (.ref a) (.dict ds)
def SndP (X : Cx) (e : Expr) (m : S → Res D) : Prop := ∀ s d s', m s = .ok d s' → ∀ (F : Fx) (I H : Hp) (σ : St) (Q : VK), Rel X.K F I H σ s →
  (∀ v I' H', Same I I' → Rel X.K F I' H' σ s' → Pk X.K I' H' v d → Q v H') → EvE X e σ H Q
theorem TRs.dts {K : PySem.W.Frag} {B : List V} {I H : Hp} : ∀ {vs : List V} {ts : List T} {fp : List Addr} {ds : List D}, TRs K B I H vs ts fp → dts ts = some ds → DtAll K I vs ds ∧ ts = ds.map T.d
  | _, _, _, _, .nil, e => by cases e; exact ⟨.nil, rfl⟩
  | _, _, _, _, .cons (t := t) (ts := ts) h r, e => by
    cases t with
    | d d =>
      unfold Nw.dts at e
      cases e2 : Nw.dts ts with
      | none => rw [e2] at e; cases e
      | some es =>
        rw [e2] at e
        cases e
        obtain ⟨k1, rfl⟩ := TRs.dts r e2
        cases h with | d h => exact ⟨.cons h k1, rfl⟩
    | _ => cases e
theorem TRk.dtk {K : PySem.W.Frag} {B : List V} {I H : Hp} : ∀ {vs : List (Key × V)} {ts : List (Key × T)} {fp : List Addr} {ds : List (D × D)}, TRk K B I H vs ts fp → dtk ts = some ds → DtK K I vs ds
  | _, _, _, _, .nil, e => by cases e; exact .nil
  | _, _, _, _, .cons (t := t) (ts := ts) h r, e => by
    cases t with
    | d d =>
      unfold Nw.dtk at e
      cases e2 : Nw.dtk ts with
      | none => rw [e2] at e; cases e
      | some es =>
        rw [e2] at e
        cases e
        cases h with | d h => exact .cons h (TRk.dtk r e2)
    | _ => cases e
theorem TR.pk {K : PySem.W.Frag} {B : List V} {I H : Hp} {v : V} {t : T} {fp : List Addr} {d : D} (h : TR K B I H v t fp) (e : vw t = some d) : Pk K I H v d := by
  cases h with
  | d h => cases e; exact .dat h
  | l h1 h2 =>
    rename_i ts _
    have e' : (match Nw.dts ts with | some ds => some (PyData.list ds) | none => none) = some d := e
    cases e2 : Nw.dts ts with
    | none => rw [e2] at e'; cases e'
    | some ds => rw [e2] at e'; cases e'; exact .lst h1 (h2.dts e2).1
  | m h1 h2 =>
    rename_i ts _
    have e' : (match Nw.dtk ts with | some ds => some (PyData.dict ds) | none => none) = some d := e
    cases e2 : Nw.dtk ts with
    | none => rw [e2] at e'; cases e'
    | some ds => rw [e2] at e'; cases e'; exact .dct h1 (h2.dtk e2)
  | p h => cases e
/-- the tree of a slot -/
theorem root_at {i : Nat} {s : S} {t : T} (hm : root i s = some t) {K : PySem.W.Frag} {F : Fx} {I H : Hp} {σ : St} (R : Rel K F I H σ s) : ∃ v fp, σ[i]? = some (some v) ∧ TR K F.bs I H v t fp ∧ fp.Nodup := by
  unfold root at hm
  split at hm
  · rename_i t' e
    cases hm
    obtain ⟨v, h1⟩ := R.val i _ e
    obtain ⟨fp, h2, h3, _⟩ := R.hold (p := .s i) ⟨h1, e⟩
    exact ⟨v, fp, h1, h2, h3⟩
  · rename_i t' e
    cases hm
    obtain ⟨ow, R⟩ := R
    obtain ⟨v, fp, h1, h2, h3, _⟩ := R.lk i _ e
    exact ⟨v, fp, h1, h2, h3⟩
  · rename_i n e
    split at hm
    · rename_i t' e2
      cases hm
      obtain ⟨v, h1, h2⟩ := R.bor i n e
      obtain ⟨fp, h3, h4, _⟩ := R.hold (p := .c n) ⟨h2, e2⟩
      exact ⟨v, fp, h1, h3, h4⟩
    · cases hm
  · cases hm
theorem pkS_at {i : Nat} {s s' : S} {d : D} (hm : pkS i s = .ok d s') {K : PySem.W.Frag} {F : Fx} {I H : Hp} {σ : St} (R : Rel K F I H σ s) : s' = s ∧ ∃ v, σ[i]? = some (some v) ∧ Pk K I H v d := by
  unfold pkS at hm
  split at hm
  · rename_i t e
    split at hm
    · rename_i d' e2
      cases hm
      obtain ⟨v, fp, h1, h2, _⟩ := root_at e R
      exact ⟨rfl, v, h1, h2.pk e2⟩
    · cases hm
  · cases hm
theorem snd_name (cx : CtxOk k C X) {x : Str} {pos : Pos} : SndD X (.Name x pos) (evName C x) := by
  intro s d s' hm F I H σ Q Rl q
  unfold evName at hm
  cases hi : slotOf C x with
  | some i =>
    simp only [hi] at hm
    exact snd_rdS cx hi s d s' hm F I H σ Q Rl q
  | none =>
    simp only [hi] at hm
    by_cases hg : isGl C x = true
    · rw [if_pos hg] at hm
      obtain ⟨e, rfl⟩ := lift_ok hm
      obtain ⟨v, u, h1, h2, h3⟩ := cx.gl x d e
      obtain ⟨g1, g2⟩ := isGl_ok cx hg
      exact ofPE (pe_glob g1 h1 h2 g2) (q v I H (Same.refl I) Rl (h3 I))
    · rw [if_neg hg] at hm
      cases hm
end
end Nw
end

set_option Elab.async false
set_option linter.all false
set_option maxRecDepth 100000
set_option maxHeartbeats 4000000
noncomputable section
namespace Nw
open PySem L2 PySem.Spec

/-! ### looked at in passing -/
section
variable {K : PySem.W.Frag} {B : List V} {F : Fx} {I I' H H' : Hp} {σ : St} {s : S}
theorem DtAll.set : ∀ {vs : List V} {ds : List D} (i : Nat) {v : V} {d : D}, DtAll K H vs ds → Dt K H v d → DtAll K H (vs.set i v) (ds.set i d)
  | _, _, _, _, _, .nil, _ => .nil
  | _, _, 0, _, _, .cons _ t, h => .cons h t
  | _, _, i + 1, _, _, .cons r t, h => .cons r (DtAll.set i t h)
theorem dtAll_nil {vs : List V} {ds : List D} (h : DtAll K H vs ds) : vs = [] ↔ ds = [] := by cases h <;> simp
theorem pk_list (e : Same I H) {v : V} {ds : List D} (h : Pk K I H v (.list ds)) : ∃ a vs, v = .ref a ∧ SqL K H a vs ∧ DtAll K I vs ds := by
  cases h with
  | dat h => cases h with | lst h1 h2 => exact ⟨_, _, rfl, e.seq h1, h2⟩
  | lst h1 h2 => exact ⟨_, _, rfl, SqL.of h1, h2⟩
theorem pk_tup (e : Same I H) {v : V} {ds : List D} (h : Pk K I H v (.tuple ds)) : ∃ a vs, v = .ref a ∧ SqT K H a vs ∧ DtAll K I vs ds := by
  cases h with
  | dat h => cases h with | tup h1 h2 => exact ⟨_, _, rfl, sqT_mono e h1, h2⟩
theorem pk_int {v : V} {i : Int} (h : Pk K I H v (.int i)) : v = .int i := by
  cases h with | dat h => cases h; rfl
theorem pk_str {v : V} {i : Str} (h : Pk K I H v (.str i)) : v = .str i := by
  cases h with | dat h => cases h; rfl
theorem pk_bool {v : V} {i : Bool} (h : Pk K I H v (.bool i)) : v = .bl i := by
  cases h with | dat h => cases h; rfl
theorem pk_none {v : V} (h : Pk K I H v .none) : v = .non := by
  cases h with | dat h => cases h; rfl
theorem pk_dict (e : Same I H) {v : V} {ds : List (D × D)} (h : Pk K I H v (.dict ds)) (n : isExc (.dict ds) = false) : ∃ a vs, v = .ref a ∧ H a = some (.dK vs) ∧ DtK K I vs ds := by
  cases h with
  | dat h => cases h with
    | dct h1 h2 => exact ⟨_, _, rfl, e _ _ h1, h2⟩
    | exc => cases n
  | dct h1 h2 => exact ⟨_, _, rfl, h1, h2⟩
theorem Pk.mono {v : V} {d : D} (i : Same I I') (h : Dt K I v d) : Pk K I' H v d := .dat (h.mono i)
theorem keyD_kd (k : Key) : keyD (kd k) = some k := by cases k <;> rfl
theorem key_of {v : V} {d : D} {k : Key} (h : Pk K I H v d) (e : keyD d = some k) : v = kV k := by
  cases d <;> cases e
  · rw [pk_int h]; rfl
  · rw [pk_str h]; rfl
theorem valV_cons {k k' : Key} {v : V} {vs : List (Key × V)} : valV ((k', v) :: vs) k = if k' = k then some v else valV vs k := by
  unfold valV
  rw [List.find?_cons]
  by_cases h : k' = k
  · simp [h]
  · simp [h]
theorem valK {k : Key} {x : D} (hk : keyD x = some k) : ∀ {vs : List (Key × V)} {ds : List (D × D)}, DtK K I vs ds → (∀ d, valD ds x = some d → ∃ v, valV vs k = some v ∧ Dt K I v d) ∧ (valD ds x = none → valV vs k = none)
  | _, _, .nil => ⟨fun d e => by simp [valD] at e, fun _ => rfl⟩
  | _, _, .cons (k := k') (v := v) (d := d') (vs := vs) (ds := ds) h r => by
    obtain ⟨r1, r2⟩ := valK hk r
    have e : valD ((kd k', d') :: ds) x = if k' = k then some d' else valD ds x := by
      show (if keyD (kd k') = keyD x then some d' else valD ds x) = _
      rw [keyD_kd, hk]
      by_cases q : k' = k
      · rw [if_pos q, if_pos (by rw [q])]
      · rw [if_neg q, if_neg (by simpa using q)]
    rw [valV_cons, e]
    by_cases q : k' = k
    · rw [if_pos q, if_pos q]
      exact ⟨fun d e => by cases e; exact ⟨v, rfl, h⟩, fun e => by cases e⟩
    · rw [if_neg q, if_neg q]
      exact ⟨r1, r2⟩
/-- a new tuple, a new list -/
theorem lay_tup (R : Rel K F I H σ s) {p : Addr} (hp : H p = none) {vs : List V} {ds : List D} (h : DtAll K I vs ds) :
    Same I (upd I p (.tup vs)) ∧ Rel K F (upd I p (.tup vs)) (upd H p (.tup vs)) σ s ∧ Dt K (upd I p (.tup vs)) (.ref p) (.tuple ds) := by
  have sI : Same I (upd I p (.tup vs)) := same_new (R.le.free hp) _
  exact ⟨sI, R.lay hp, .tup (SqT.of upd_same) (h.mono sI)⟩
theorem push_lst (R : Rel K F I H σ s) {p : Addr} (hp : H p = none) {vs : List V} {ds : List D} (h : DtAll K I vs ds) : Rel K (F.push (.ref p) (.l (ds.map T.d))) I (upd H p (.lst vs)) σ s :=
  R.push (fp := [p]) (Same.refl I) (same_upd2 R.le (R.le.free hp)) (same_new hp _) (fun a o e => .inl e) (.l (fp := []) upd_same (TRs.of_data h)) (by simp) (fun a ha => by
    rw [List.mem_singleton] at ha
    subst ha
    exact ⟨hp, R.le.free hp⟩)
end

/-! ### places -/
section
variable {X : Cx} {k : Nat} {C : Cf} {R : EvK}
/-- d[k] of a dict in the heap -/
def rIxDk : R2 := fun x y H Q => ∃ a v, x = .ref a ∧ DGet H a y (some v) ∧ Q v H
theorem ix_dk (hu : X.A.units + 1 < cLine) : IxR X rIxDk := by
  intro value slice pins s σ H x y v u Q I rx ry h hs
  obtain ⟨a, w, rfl, g, q⟩ := h
  obtain rfl : v = Value.ref a := rx
  exact PyProof.Rows.tail_any (dict_typeIs I g) PySem.F.slot_dict_getitem.lookup (d_getItem hu I g ry fun w' s3 I3 rw' => ⟨w, H, I3, rw', q⟩) hs
theorem plain_of {i : Expr} (h : notSlice i = true) : PlainIx i := fun o j => by
  cases i <;> first | rfl | cases h
theorem step_ok (cx : CtxOk k C X) {s : S} {i : Expr} {st : Step} (h : stepOf C s i = some st) : notSlice i = true ∧ ∃ key, st = .ix key ∧ ∀ (F : Fx) (I H : Hp) (σ : St) (Q : VK), Rel X.K F I H σ s → Q (kV key) H → EvE X i σ H Q := by
  unfold stepOf at h
  split at h
  · cases h; exact ⟨rfl, _, rfl, fun F I H σ Q Rl q => ofPE pe_int q⟩
  · cases h; exact ⟨rfl, _, rfl, fun F I H σ Q Rl q => ofPE pe_str q⟩
  · split at h
    · rename_i j hj
      split at h
      · rename_i z e
        cases h
        refine ⟨rfl, _, rfl, fun F I H σ Q Rl q => ofPE (pe_slot cx hj) ?_⟩
        obtain ⟨v, h1⟩ := Rl.val j _ e
        obtain ⟨fp, h2, _⟩ := Rl.hold (p := .s j) ⟨h1, e⟩
        cases h2 with | d h2 => cases h2; exact ⟨_, h1, q⟩
      · rename_i z e
        cases h
        refine ⟨rfl, _, rfl, fun F I H σ Q Rl q => ofPE (pe_slot cx hj) ?_⟩
        obtain ⟨v, h1⟩ := Rl.val j _ e
        obtain ⟨fp, h2, _⟩ := Rl.hold (p := .s j) ⟨h1, e⟩
        cases h2 with | d h2 => cases h2; exact ⟨_, h1, q⟩
      · cases h
    · cases h
  · cases h
theorem getP_app : ∀ (st : List Step) (t : T) (k : Step), getP t (st ++ [k]) = (getP t st).bind fun u => getP u [k]
  | [], t, k => by cases t <;> rfl
  | .ix (.inl z) :: r, .l ts, k => by
    show (match atI ts z with | some t => getP t (r ++ [k]) | none => none) = (match atI ts z with | some t => getP t r | none => none).bind _
    cases atI ts z with
    | none => rfl
    | some t => exact getP_app r t k
  | .ix (.inr z) :: r, .l ts, k => rfl
  | .ix z :: r, .m ts, k => by
    show getP (.m ts) (.ix z :: (r ++ [k])) = _
    rw [getP_m, getP_m]
    cases valG ts z with
    | none => rfl
    | some t => exact getP_app r t k
  | .ix (.inl z) :: r, .d d, k => rfl
  | .ix (.inr z) :: r, .d d, k => rfl
  | .ix (.inl z) :: r, .p d, k => rfl
  | .ix (.inr z) :: r, .p d, k => rfl
  | .ix (.inl z) :: r, .o c fs, k => rfl
  | .ix (.inr z) :: r, .o c fs, k => rfl
  | .at f :: r, .d d, k => rfl
  | .at f :: r, .l d, k => rfl
  | .at f :: r, .m d, k => rfl
  | .at f :: r, .p d, k => rfl
  | .at f :: r, .o c fs, k => rfl
theorem TRs.at_ix {K : PySem.W.Frag} {B : List V} {I H : Hp} {vs : List V} {ts : List T} {fp : List Addr} {z : Int} {t : T} (h : TRs K B I H vs ts fp) (e : atI ts z = some t) : ∃ v fq, atI vs z = some v ∧ TR K B I H v t fq := by
  unfold atI at e ⊢
  rw [h.len]
  cases hz : ixN ts.length z with
  | none => rw [hz] at e; cases e
  | some j =>
    rw [hz, Option.bind_some] at e
    obtain ⟨vl, v, vr, tl, tr, fl, fj, fr, rfl, rfl, h1, h2, rfl, h4, h5, h6⟩ := h.split e
    refine ⟨v, fj, ?_, h5⟩
    rw [Option.bind_some, ← h2]
    simp
theorem TRk.at_ix {K : PySem.W.Frag} {B : List V} {I H : Hp} : ∀ {vs : List (Key × V)} {ts : List (Key × T)} {fp : List Addr} {z : Key} {t : T}, TRk K B I H vs ts fp → valG ts z = some t → ∃ v fq, valV vs z = some v ∧ TR K B I H v t fq
  | _, _, _, _, _, .nil, e => by cases e
  | _, _, _, z, t, .cons (k := k0) (v := v0) (t := t0) (vs := vs) h r, e => by
    rw [valV_cons]
    unfold valG at e
    by_cases q : k0 = z
    · rw [if_pos q] at e ⊢
      cases e
      exact ⟨v0, _, rfl, h⟩
    · rw [if_neg q] at e ⊢
      exact TRk.at_ix r e
def stepV (H : Hp) (a : Addr) (k : Key) : Option V := match H a with
  | some (.lst vs) => (match k with | .inl z => atI vs z | .inr _ => none)
  | some (.dK kvs) => valV kvs k
  | _ => none
theorem pathV_cons {H : Hp} (a : Addr) (k : Key) (r : List Step) : pathV H (.ref a) (.ix k :: r) = (stepV H a k).bind fun v => pathV H v r := by
  unfold stepV
  rw [pathV]
  cases H a with
  | none => rfl
  | some o =>
    cases o with
    | lst vs =>
      cases k with
      | inl z =>
        simp only
        cases atI vs z <;> rfl
      | inr z => rfl
    | dK kvs =>
      simp only
      cases valV kvs k <;> rfl
    | _ => rfl
theorem pathV_app {H : Hp} : ∀ (st : List Step) (v w : V) (k : Step), pathV H v st = some w → pathV H v (st ++ [k]) = pathV H w [k]
  | [], v, w, k, h => by
    rw [pathV_nil] at h
    cases h
    rfl
  | .ix key :: r, .ref a, w, k, h => by
    rw [List.cons_append, pathV_cons]
    rw [pathV_cons] at h
    cases hz : stepV H a key with
    | none => rw [hz] at h; cases h
    | some u =>
      rw [hz, Option.bind_some] at h
      rw [Option.bind_some]
      exact pathV_app r u w k h
  | .ix key :: r, .int _, w, k, h => by cases h
  | .ix key :: r, .str _, w, k, h => by cases h
  | .ix key :: r, .bl _, w, k, h => by cases h
  | .ix key :: r, .non, w, k, h => by cases h
  | .ix key :: r, .ty _, w, k, h => by cases h
  | .ix key :: r, .flt _, w, k, h => by cases h
  | .ix key :: r, .byt _, w, k, h => by cases h
  | .at f :: r, v, w, k, h => by cases v <;> cases h
/-- a path into a tree, read -/
theorem snd_plc (cx : CtxOk k C X) {s : S} (e : Expr) {p : Nat × List Step} {t : T} (h : plc C s e = some p) (g : getAt s p = some t)
    (F : Fx) (I H : Hp) (σ : St) (Q : VK) (Rl : Rel X.K F I H σ s) (q : ∀ v0 v fp, σ[p.1]? = some (some v0) → pathV H v0 p.2 = some v → TR X.K F.bs I H v t fp → Q v H) : EvE X e σ H Q := by
  cases e with
  | Name x ps =>
    have h' : (slotOf C x).map (fun i => (i, ([] : List Step))) = some p := h
    cases hi : slotOf C x with
    | none => rw [hi] at h'; cases h'
    | some i =>
      rw [hi] at h'
      cases h'
      have g' : root i s = some t := by
        unfold getAt at g
        cases e : root i s with
        | none => rw [e] at g; cases g
        | some u =>
          rw [e] at g
          have g'' : getP u [] = some t := g
          cases u <;> exact g''
      obtain ⟨v, fp, h1, h2, _⟩ := root_at g' Rl
      exact ofPE (pe_slot cx hi) ⟨v, h1, q v v fp h1 (pathV_nil v) h2⟩
  | Subscript a i ps =>
    have h' : (match plc C s a, stepOf C s i with | some (r, st), some k => some (r, st ++ [k]) | _, _ => none) = some p := h
    cases ha : plc C s a with
    | none => rw [ha] at h'; cases h'
    | some rs =>
      cases hi : stepOf C s i with
      | none => rw [ha, hi] at h'; cases h'
      | some st =>
        rw [ha, hi] at h'
        cases h'
        obtain ⟨hs, key, rfl, hk⟩ := step_ok cx hi
        unfold getAt at g
        cases hr : root rs.1 s with
        | none => rw [hr] at g; cases g
        | some u =>
          rw [hr] at g
          have g1 : getP u (rs.2 ++ [.ix key]) = some t := g
          rw [getP_app] at g1
          cases hu : getP u rs.2 with
          | none => rw [hu] at g1; cases g1
          | some w =>
            rw [hu] at g1
            have g2 : getP w [.ix key] = some t := g1
            have ga : getAt s rs = some w := by
              unfold getAt
              rw [hr]
              exact hu
            cases w with
            | l ts =>
              cases key with
              | inr z => cases g2
              | inl z =>
                have g3 : (match atI ts z with | some t => getP t [] | none => none) = some t := g2
                cases hz : atI ts z with
                | none => rw [hz] at g3; cases g3
                | some t' =>
                  rw [hz] at g3
                  have e3 : t' = t := by
                    have : getP t' [] = some t := g3
                    cases t' <;> exact Option.some.inj this
                  subst e3
                  refine ofPE (pe_ix ix_list (pe_w a) (pe_w i) (plain_of hs)) (snd_plc cx a ha ga F I H σ _ Rl fun v0 v fp hv0 hpv tr => hk F I H σ _ Rl ?_)
                  cases tr with | @l ad vs _ fp' h1 h2 =>
                  obtain ⟨w, fq, k1, k2⟩ := h2.at_ix hz
                  exact ⟨ad, vs, z, w, rfl, rfl, SqL.of h1, k1, q v0 w fq hv0 (by rw [pathV_app _ _ _ _ hpv, pathV_l h1 k1, pathV_nil]) k2⟩
            | m ts =>
              rw [getP_m] at g2
              cases hz : valG ts key with
              | none => rw [hz] at g2; cases g2
              | some t' =>
                rw [hz] at g2
                have e3 : t' = t := by
                  have : getP t' [] = some t := g2
                  cases t' <;> exact Option.some.inj this
                subst e3
                refine ofPE (pe_ix (ix_dk (hu_of cx.room)) (pe_w a) (pe_w i) (plain_of hs)) (snd_plc cx a ha ga F I H σ _ Rl fun v0 v fp hv0 hpv tr => hk F I H σ _ Rl ?_)
                cases tr with | @m ad vs _ fp' h1 h2 =>
                obtain ⟨w, fq, k1, k2⟩ := h2.at_ix hz
                exact ⟨ad, w, rfl, by rw [← k1]; exact DGet.k h1, q v0 w fq hv0 (by rw [pathV_app _ _ _ _ hpv, pathV_m h1 k1, pathV_nil]) k2⟩
            | d d => cases key <;> cases g2
            | p n => cases key <;> cases g2
            | o c fs => cases key <;> cases g2
  | _ => cases h
termination_by sizeOf e
/-- looked at in passing -/
theorem snd_pkE (cx : CtxOk k C X) (sn : Snd C X R) (e : Expr) : SndP X e (pkE C R e) := by
  intro s d s' hm F I H σ Q Rl q
  have gen : dE R e s = .ok d s' → EvE X e σ H Q := fun hm => snd_dE sn.e e s d s' hm F I H σ Q Rl fun v I' H' a b c => q v I' H' a b (.dat c)
  cases e with
  | Name x p =>
    unfold pkE at hm
    cases hi : slotOf C x with
    | some i =>
      simp only [hi] at hm
      refine ofPE (pe_slot cx hi) ?_
      obtain ⟨rfl, v, h1, h2⟩ := pkS_at hm Rl
      exact ⟨v, h1, q v I H (Same.refl I) Rl h2⟩
    | none =>
      simp only [hi] at hm
      exact gen hm
  | Subscript a i p =>
    have hm' : (match (plc C s (.Subscript a i p)).bind (getAt s) with
      | some t => (match vw t with | some d => Res.ok d s | none => .bad)
      | none => dE R (.Subscript a i p) s) = .ok d s' := hm
    cases hp : plc C s (.Subscript a i p) with
    | none => rw [hp] at hm'; exact gen hm'
    | some pl =>
      rw [hp, Option.bind_some] at hm'
      cases hg : getAt s pl with
      | none => rw [hg] at hm'; exact gen hm'
      | some t =>
        rw [hg] at hm'
        cases hv : vw t with
        | none => simp only [hv] at hm'; cases hm'
        | some d' =>
          simp only [hv] at hm'
          cases hm'
          exact snd_plc cx _ hp hg F I H σ Q Rl fun _ v fp _ _ tr => q v I H (Same.refl I) Rl (tr.pk hv)
  | _ => exact gen hm
/-- two operands from the left -/
theorem snd_two {α : Type} (cx : CtxOk k C X) (sn : Snd C X R) {a b : Expr} {f : D → D → Option α} {s s' : S} {z : α} (hm : opE C R a b f s = .ok z s') : ∃ x y, f x y = some z ∧ ∀ (F : Fx) (I H : Hp) (σ : St) (Q : V → V → Hp → Prop), Rel X.K F I H σ s →
    (∀ v u I2 H2, Same I I2 → Rel X.K F I2 H2 σ s' → Pk X.K I2 H2 v x → Pk X.K I2 H2 u y → Q v u H2) → EvE X a σ H fun v H1 => EvE X b σ H1 fun u H2 => Q v u H2 := by
  have gen : (bnd (dE R a) fun x => bnd (pkE C R b) fun y => lift (f x y)) s = .ok z s' → ∃ x y, f x y = some z ∧ ∀ (F : Fx) (I H : Hp) (σ : St) (Q : V → V → Hp → Prop), Rel X.K F I H σ s →
      (∀ v u I2 H2, Same I I2 → Rel X.K F I2 H2 σ s' → Pk X.K I2 H2 v x → Pk X.K I2 H2 u y → Q v u H2) → EvE X a σ H fun v H1 => EvE X b σ H1 fun u H2 => Q v u H2 := fun hm => by
    obtain ⟨x, s1, h1, h2⟩ := bnd_ok hm
    obtain ⟨y, s2, h3, h4⟩ := bnd_ok h2
    obtain ⟨e, rfl⟩ := lift_ok h4
    refine ⟨x, y, e, fun F I H σ Q Rl q => ?_⟩
    exact snd_dE sn.e a s x s1 h1 F I H σ _ Rl fun v I1 H1 a1 R1 d1 => snd_pkE cx sn b s1 y _ h3 F I1 H1 σ _ R1 fun u I2 H2 a2 R2 d2 => q v u I2 H2 (a1.trans a2) R2 (.dat (d1.mono a2)) d2
  cases a with
  | Name x p =>
    cases hj : slotOf C x with
    | none =>
      unfold opE at hm
      simp only [hj] at hm
      exact gen hm
    | some j =>
      unfold opE at hm
      simp only [hj] at hm
      obtain ⟨_, s1, h1, h2⟩ := bnd_ok hm
      obtain ⟨y, s2, h3, h4⟩ := bnd_ok h2
      obtain ⟨x', s3, h5, h6⟩ := bnd_ok h4
      obtain ⟨e, rfl⟩ := lift_ok h6
      refine ⟨x', y, e, fun F I H σ Q Rl q => ofPE (pe_slot cx hj) ?_⟩
      obtain ⟨rfl, v, k1, _⟩ := pkS_at h1 Rl
      refine ⟨v, k1, snd_pkE cx sn b _ y s2 h3 F I H σ _ Rl fun u I2 H2 a2 R2 d2 => ?_⟩
      obtain ⟨rfl, v', k3, k4⟩ := pkS_at h5 R2
      rw [k1] at k3
      cases k3
      exact q v u I2 H2 a2 R2 k4 d2
  | _ => exact gen hm
end
end Nw
end

set_option Elab.async false
set_option linter.all false
set_option maxRecDepth 100000
set_option maxHeartbeats 4000000
noncomputable section
namespace Nw
open PySem L2 PySem.Spec

section
variable {X : Cx}
/-- xs + ys of lists that are read -/
def rCatR (K : PySem.W.Frag) : R2 := fun x y H Q => ∃ l b xs zs, x = .ref l ∧ y = .ref b ∧ SqL K H l xs ∧ SqL K H b zs ∧ xs.length + zs.length ≤ sizeLine ∧ ∀ p, H p = none → Q (.ref p) (upd H p (.lst (xs ++ zs)))
theorem op_catR : OpR X (binaryOp .Add) (rCatR X.K) := by
  intro pins s σ H x y v u Q I rx ry h
  obtain ⟨l, b, xs, zs, rfl, rfl, hH, hB, hz, q⟩ := h
  cases rx
  cases ry
  obtain ⟨its, r, ⟨⟨cls, dd, data, sl⟩, n, e, hc, _, hd⟩, _⟩ := I.list hH
  obtain ⟨its2, r2, ⟨⟨cls2, dd2, data2, sl2⟩, n2, e2, hc2, _, hd2⟩, _⟩ := I.list hB
  simp only at hc hd hc2 hd2
  subst hc hd hc2 hd2
  have hl := r.length
  have hl2 := r2.length
  have ea : its.toArray ++ its2.toArray = (its ++ its2).toArray := by simp
  refine concat_meets ⟨_, e, rfl⟩ ⟨_, e2, rfl⟩ noFill_list_add seq_list_add PySem.F.slot_list_add PySem.F.entry_list_add (PySem.F.args_list_add_2 _ _) (PyProof.Rows.list_addW l b its.toArray its2.toArray n n2 dd dd2 sl sl2 (by rw [List.size_toArray, List.size_toArray]; omega)) ⟨e, e2, ?_⟩
  rw [ea]
  exact ⟨.ref _, _, I.lnew (t' := s.toks) (r.append r2) (by rw [List.length_append]; omega), rfl, q _ I.fresh⟩
end

/-! ### two operands -/
section
variable {X : Cx} {k : Nat} {C : Cf} {R : EvK}
/-- a rule for two values that are data -/
def Op2 (X : Cx) (f : Value → Value → Sem Value) (x y : D) (t : T) : Prop := ∃ r, OpR X f r ∧ ∀ (F : Fx) (I H : Hp) (σ : St) (s : S) (v u : V) (Q : VK), Rel X.K F I H σ s → Pk X.K I H v x → Pk X.K I H u y →
  (∀ w I' H', Same I I' → Rel X.K (F.push w t) I' H' σ s → Q w H') → r v u H Q
theorem op2_int {f : Value → Value → Sem Value} {g : Int → Int → Int} (h : OpR X f (rI0 fun i j => .int (g i j))) (i j : Int) : Op2 X f (.int i) (.int j) (.d (.int (g i j))) := by
  refine ⟨_, h, fun F I H σ s v u Q R d1 d2 q => ?_⟩
  obtain rfl := pk_int d1
  obtain rfl := pk_int d2
  exact ⟨i, j, rfl, rfl, q _ I H (Same.refl I) (R.pushD (.int _))⟩
theorem op2_intC {f : Value → Value → Sem Value} {c : Int → Int → Prop} {g : Int → Int → Int} (h : OpR X f (rI c fun i j => .int (g i j))) {i j : Int} (hc : c i j) : Op2 X f (.int i) (.int j) (.d (.int (g i j))) := by
  refine ⟨_, h, fun F I H σ s v u Q R d1 d2 q => ?_⟩
  obtain rfl := pk_int d1
  obtain rfl := pk_int d2
  exact ⟨i, j, rfl, rfl, hc, q _ I H (Same.refl I) (R.pushD (.int _))⟩
theorem op2_bin {op : Operator} {x y : D} {t : T} (h : binD op x y = some t) : Op2 X (binaryOp op) x y t := by
  unfold binD at h
  split at h
  · cases h; exact op2_int op_add _ _
  · rename_i a b
    split at h <;> cases h
    rename_i hz
    refine ⟨_, op_catR, fun F I H σ s v u Q R d1 d2 q => ?_⟩
    obtain ⟨l, xs, rfl, h1, h2⟩ := pk_list R.le d1
    obtain ⟨m, ys, rfl, h3, h4⟩ := pk_list R.le d2
    refine ⟨l, m, xs, ys, rfl, rfl, h1, h3, by rw [h2.len, h4.len]; exact hz, fun p hp => ?_⟩
    exact q _ _ _ (Same.refl I) (push_lst R hp (h2.append h4))
  · rename_i a b
    split at h <;> cases h
    rename_i hz
    refine ⟨_, op_catA, fun F I H σ s v u Q R d1 d2 q => ?_⟩
    obtain ⟨l, xs, rfl, h1, h2⟩ := pk_tup R.le d1
    obtain ⟨m, ys, rfl, h3, h4⟩ := pk_tup R.le d2
    cases d1 with | dat d1 =>
    cases d2 with | dat d2 =>
    refine ⟨l, m, xs, ys, rfl, rfl, h1, h3, by rw [h2.len, h4.len]; exact hz, fun e => ?_, fun _ e => ?_, fun _ _ p hp => ?_⟩
    · have := (dtAll_nil h2).mp e
      subst this
      exact q _ I H (Same.refl I) (R.pushD d2)
    · have := (dtAll_nil h4).mp e
      subst this
      rw [List.append_nil] at q
      exact q _ I H (Same.refl I) (R.pushD d1)
    · obtain ⟨a1, a2, a3⟩ := lay_tup R hp (h2.append h4)
      exact q _ _ _ a1 (a2.pushD a3)
  · rename_i a b
    split at h <;> cases h
    rename_i hz
    refine ⟨_, op_add_str, fun F I H σ s v u Q R d1 d2 q => ?_⟩
    obtain rfl := pk_str d1
    obtain rfl := pk_str d2
    exact ⟨a, b, rfl, rfl, hz, q _ I H (Same.refl I) (R.pushD (.str _))⟩
  · cases h; exact op2_int op_sub _ _
  · split at h <;> cases h
    rename_i hc
    rcases hc with hc | hc
    · exact op2_intC op_mul hc
    · exact op2_intC op_mulW hc
  · split at h <;> cases h
    rename_i hc
    exact op2_intC op_fdivW hc
  · split at h <;> cases h
    rename_i hc
    exact op2_intC op_mod hc
  · split at h <;> cases h
    rename_i hc
    exact op2_intC op_pow hc
  · cases h; exact op2_int op_and _ _
  · cases h
theorem op2_aug {op : Operator} {x y d : D} (h : augD op x y = some d) : Op2 X (inplaceOp op) x y (.d d) := by
  unfold augD at h
  split at h
  · cases h; exact op2_int iop_add _ _
  · cases h; exact op2_int iop_sub _ _
  · split at h <;> cases h
    rename_i hc
    exact op2_intC iop_mul hc
  · split at h <;> cases h
    rename_i hc
    exact op2_intC iop_fdivW hc
  · cases h
theorem snd_bin (cx : CtxOk k C X) (sn : Snd C X R) {a b : Expr} {op : Operator} {pos : Pos} : SndE X (.BinOp a op b pos) (opE C R a b (binD op)) := by
  intro s t s' hm F I H σ Q Rl q
  obtain ⟨x, y, e, h⟩ := snd_two cx sn hm
  obtain ⟨r, hr, hq⟩ := op2_bin (X := X) e
  refine fun pins sh inv => wpAny_BinOp (thn (h F I H σ (fun v u H2 => r v u H2 Q) Rl (fun v u I2 H2 i2 R2 d1 d2 => hq F I2 H2 σ s' v u Q R2 d1 d2 fun w I3 H3 a b => q w I3 H3 (i2.trans a) b) pins sh inv) fun v1 sh1 ⟨v, H1, inv1, r1, h2⟩ => ?_)
  refine thn (h2 pins sh1 inv1) fun u1 sh2 ⟨u, H2, inv2, r2, h3⟩ => ?_
  exact hr pins sh2 σ H2 v u v1 u1 Q inv2 r1 r2 h3
end
end Nw
end

set_option Elab.async false
set_option linter.all false
set_option maxRecDepth 100000
set_option maxHeartbeats 4000000
noncomputable section
namespace Nw
open PySem L2 PySem.Spec

/-! ### comparisons -/
section
variable {K : PySem.W.Frag} {I H : Hp}
mutual
theorem Dt.dp : ∀ (d : D) {v : V}, Dt K H v d → d.canLay0 = true → Dp K H v d
  | .none, _, h, _ => by cases h; exact .non
  | .bool b, _, h, _ => by cases h; exact .bl b
  | .int i, _, h, _ => by cases h; exact .int i
  | .str x, _, h, _ => by cases h; exact .str x
  | .list ds, _, h, c => by cases h with | lst h1 h2 => exact .lst h1 (DtAll.dp ds h2 (by simpa [PyData.canLay0] using c))
  | .tuple ds, _, h, c => by cases h with | tup h1 h2 => exact .tup h1 (DtAll.dp ds h2 (by simpa [PyData.canLay0] using c))
  | .dict kvs, _, h, c => nomatch c
theorem DtAll.dp : ∀ (ds : List D) {vs : List V}, DtAll K H vs ds → PyData.canLayAll0 ds = true → DpAll K H vs ds
  | [], _, h, _ => by cases h; exact .nil
  | d :: ds, _, h, c => by
    have c' : d.canLay0 = true ∧ PyData.canLayAll0 ds = true := by simpa [PyData.canLayAll0] using c
    cases h with | cons h1 h2 => exact .cons (Dt.dp d h1 c'.1) (DtAll.dp ds h2 c'.2)
end
theorem pk_dp (e : Same I H) {v : V} {d : D} (h : Pk K I H v d) (c : SeqAt.shaped d = true) : Dp K H v d := by
  have c := SeqAt.canLay_of_shaped c
  cases h with
  | dat h => exact (h.mono e).dp d c
  | lst h1 h2 => exact .lst (SqL.of h1) (DtAll.dp _ (h2.mono e) (by simpa [PyData.canLay0] using c))
  | dct h1 h2 => exact nomatch c
theorem flat_of {v : V} {d : D} (h : Dt K I v d) (f : flatD d = true) : flatV v = true := by
  cases h <;> first | rfl | cases f
theorem flats_of : ∀ {vs : List V} {ds : List D}, DtAll K I vs ds → ds.all flatD = true → vs.all flatV = true
  | _, _, .nil, _ => rfl
  | _, _, .cons h t, f => by
    rw [List.all_cons, Bool.and_eq_true] at f ⊢
    exact ⟨flat_of h f.1, flats_of t f.2⟩
theorem eqV_of {v u : V} {d e : D} (h : Dt K I v d) (h' : Dt K I u e) (f : flatD d = true) (f' : flatD e = true) : eqV v u = PyData.eqv d e := by
  cases h <;> first | (cases f; done) | (cases h' <;> first | (cases f'; done) | rfl)
theorem inV_of {v : V} {d : D} (h : Dt K I v d) (f : flatD d = true) : ∀ {vs : List V} {ds : List D}, DtAll K I vs ds → ds.all flatD = true → inV v vs = inD d ds
  | _, _, .nil, _ => rfl
  | _, _, .cons h1 t, g => by
    rw [List.all_cons, Bool.and_eq_true] at g
    have ih := inV_of h f t g.2
    unfold inV inD at ih ⊢
    rw [List.any_cons, List.any_cons, ih, eqV_of h1 h g.1 f]
theorem pk_flat {v : V} {d : D} (h : Pk K I H v d) (f : flatD d = true) : Dt K I v d := by
  cases h with
  | dat h => exact h
  | lst h1 h2 => cases f
  | dct h1 h2 => cases f
end
section
variable {X : Cx} {k : Nat} {C : Cf} {R : EvK}
def CmpR (X : Cx) (op : CmpOp) (x y : D) (b : Bool) : Prop := ∃ r, OpR X (compareOp op) r ∧ ∀ (I H : Hp) (v u : V) (Q : VK), Same I H → Pk X.K I H v x → Pk X.K I H u y → Q (.bl b) H → r v u H Q
theorem cmp_int {op : CmpOp} {g : Int → Int → Bool} (h : OpR X (compareOp op) (rI0 fun i j => .bl (g i j))) (i j : Int) : CmpR X op (.int i) (.int j) (g i j) := by
  refine ⟨_, h, fun I H v u Q _ d1 d2 q => ?_⟩
  obtain rfl := pk_int d1
  obtain rfl := pk_int d2
  exact ⟨i, j, rfl, rfl, q⟩
theorem cmp_eqD (hu : X.A.units + 64 < cLine) {x y : D} (h : (SeqAt.shaped x && SeqAt.shaped y) = true) : CmpR X .Eq x y (PyData.eqv x y) := by
  rw [Bool.and_eq_true] at h
  exact ⟨_, op_eqD hu, fun I H v u Q e d1 d2 q => ⟨x, y, pk_dp e d1 h.1, pk_dp e d2 h.2, h.1, h.2, q⟩⟩
theorem cmp_neD (hu : X.A.units + 64 < cLine) {x y : D} (h : (SeqAt.shaped x && SeqAt.shaped y) = true) : CmpR X .NotEq x y (!PyData.eqv x y) := by
  rw [Bool.and_eq_true] at h
  exact ⟨_, op_neD hu, fun I H v u Q e d1 d2 q => ⟨x, y, pk_dp e d1 h.1, pk_dp e d2 h.2, h.1, h.2, q⟩⟩
def rInDk (neg : Bool) : R2 := fun y x H Q => ∃ a o, x = .ref a ∧ DGet H a y o ∧ Q (.bl (if neg then !o.isSome else o.isSome)) H
theorem op_inDk (hu : X.A.units + 1 < cLine) : OpR X (compareOp .In) (rInDk false) := by
  intro pins s σ H x y v u Q I rx ry h
  obtain ⟨a, o, rfl, g, q⟩ := h
  obtain rfl : u = Value.ref a := ry
  exact d_in hu I g rx fun s3 I3 => ⟨.bl o.isSome, H, I3, rfl, q⟩
theorem op_ninDk (hu : X.A.units + 1 < cLine) : OpR X (compareOp .NotIn) (rInDk true) := by
  intro pins s σ H x y v u Q I rx ry h
  obtain ⟨a, o, rfl, g, q⟩ := h
  obtain rfl : u = Value.ref a := ry
  exact d_notIn hu I g rx fun s3 I3 => ⟨.bl (!o.isSome), H, I3, rfl, q⟩
theorem get_of {I H : Hp} {u v : V} {x : D} {kvs : List (D × D)} {K : PySem.W.Frag} (e : Same I H) (d1 : Pk K I H v x) (d2 : Pk K I H u (.dict kvs)) (h : ((keyD x).isSome && !isExc (.dict kvs)) = true) : ∃ a o, u = .ref a ∧ DGet H a v o ∧ o.isSome = (valD kvs x).isSome ∧ ∀ d, valD kvs x = some d → ∃ w, o = some w ∧ Dt K I w d := by
  rw [Bool.and_eq_true] at h
  obtain ⟨a, vs, rfl, h1, h2⟩ := pk_dict e d2 (by simpa using h.2)
  cases hk : keyD x with
  | none => rw [hk] at h; cases h.1
  | some key =>
    obtain rfl := key_of d1 hk
    obtain ⟨r1, r2⟩ := valK hk h2
    refine ⟨a, _, rfl, DGet.k h1, ?_, ?_⟩
    · cases q : valD kvs x with
      | none => rw [r2 q]; rfl
      | some d => obtain ⟨w, k1, _⟩ := r1 d q; rw [k1]; rfl
    · intro d q
      obtain ⟨w, k1, k2⟩ := r1 d q
      exact ⟨w, k1, k2⟩
theorem cmp_inL {x : D} {ys : List D} (h : (flatD x && ys.all flatD) = true) : CmpR X .In x (.list ys) (inD x ys) := by
  rw [Bool.and_eq_true] at h
  refine ⟨_, op_in_seq, fun I H v u Q e d1 d2 q => ?_⟩
  obtain ⟨a, vs, rfl, h1, h2⟩ := pk_list e d2
  refine ⟨a, vs, rfl, .inl (h1), flat_of (pk_flat d1 h.1) h.1, flats_of h2 h.2, ?_⟩
  show Q (.bl (inV v vs)) H
  rw [inV_of (pk_flat d1 h.1) h.1 h2 h.2]
  exact q
theorem cmp_inT {x : D} {ys : List D} (h : (flatD x && ys.all flatD) = true) : CmpR X .In x (.tuple ys) (inD x ys) := by
  rw [Bool.and_eq_true] at h
  refine ⟨_, op_in_seq, fun I H v u Q e d1 d2 q => ?_⟩
  obtain ⟨a, vs, rfl, h1, h2⟩ := pk_tup e d2
  refine ⟨a, vs, rfl, .inr h1, flat_of (pk_flat d1 h.1) h.1, flats_of h2 h.2, ?_⟩
  show Q (.bl (inV v vs)) H
  rw [inV_of (pk_flat d1 h.1) h.1 h2 h.2]
  exact q
theorem cmp_ninL {x : D} {ys : List D} (h : (flatD x && ys.all flatD) = true) : CmpR X .NotIn x (.list ys) (!inD x ys) := by
  rw [Bool.and_eq_true] at h
  refine ⟨_, op_notIn_seq, fun I H v u Q e d1 d2 q => ?_⟩
  obtain ⟨a, vs, rfl, h1, h2⟩ := pk_list e d2
  refine ⟨a, vs, rfl, .inl (h1), flat_of (pk_flat d1 h.1) h.1, flats_of h2 h.2, ?_⟩
  show Q (.bl (!inV v vs)) H
  rw [inV_of (pk_flat d1 h.1) h.1 h2 h.2]
  exact q
theorem cmp_ninT {x : D} {ys : List D} (h : (flatD x && ys.all flatD) = true) : CmpR X .NotIn x (.tuple ys) (!inD x ys) := by
  rw [Bool.and_eq_true] at h
  refine ⟨_, op_notIn_seq, fun I H v u Q e d1 d2 q => ?_⟩
  obtain ⟨a, vs, rfl, h1, h2⟩ := pk_tup e d2
  refine ⟨a, vs, rfl, .inr h1, flat_of (pk_flat d1 h.1) h.1, flats_of h2 h.2, ?_⟩
  show Q (.bl (!inV v vs)) H
  rw [inV_of (pk_flat d1 h.1) h.1 h2 h.2]
  exact q
def isN : D → Bool
  | .none => true
  | _ => false
theorem dt_non {K : PySem.W.Frag} {I : Hp} {v : V} {d : D} (h : Dt K I v d) : decide (v = .non) = isN d := by
  cases h <;> simp [isN]
theorem pk_non {K : PySem.W.Frag} {I H : Hp} {v : V} {d : D} (h : Pk K I H v d) : decide (v = .non) = isN d := by
  cases h with
  | dat h => exact dt_non h
  | lst => simp [isN]
  | dct => simp [isN]
theorem cmp_ok (hu : X.A.units + 64 < cLine) {op : CmpOp} {x y : D} {b : Bool} (h : cmpD op x y = some b) : CmpR X op x y b := by
  have isn : ∀ {x : D} {b : Bool}, isN x = b → CmpR X .Is x .none b := fun {x b} e => by
    refine ⟨_, op_isN, fun I H v u Q _ d1 d2 q => ?_⟩
    obtain rfl := pk_none d2
    refine ⟨rfl, ?_⟩
    rw [pk_non d1, e]
    exact q
  have ntn : ∀ {x : D} {b : Bool}, (!isN x) = b → CmpR X .IsNot x .none b := fun {x b} e => by
    refine ⟨_, op_notN, fun I H v u Q _ d1 d2 q => ?_⟩
    obtain rfl := pk_none d2
    refine ⟨rfl, ?_⟩
    rw [pk_non d1, e]
    exact q
  have eqs : ∀ {x y : V} {d e : D} , (∀ I H, ∀ {v : V}, Pk X.K I H v d → v = x) → (∀ I H, ∀ {v : V}, Pk X.K I H v e → v = y) → scal x y = true → CmpR X .Eq d e (decide (x = y)) := fun {x y d e} hx hy hs => by
    refine ⟨_, op_eq, fun I H v u Q _ d1 d2 q => ?_⟩
    cases hx I H d1
    cases hy I H d2
    exact ⟨hs, q⟩
  have nes : ∀ {x y : V} {d e : D} , (∀ I H, ∀ {v : V}, Pk X.K I H v d → v = x) → (∀ I H, ∀ {v : V}, Pk X.K I H v e → v = y) → scal x y = true → CmpR X .NotEq d e (!decide (x = y)) := fun {x y d e} hx hy hs => by
    refine ⟨_, op_ne, fun I H v u Q _ d1 d2 q => ?_⟩
    cases hx I H d1
    cases hy I H d2
    exact ⟨hs, q⟩
  unfold cmpD at h
  split at h
  · cases h; rw [ltB_eq]; exact cmp_int op_lt _ _
  · cases h; rw [leB_eq]; exact cmp_int op_le _ _
  · cases h; rw [ltB_eq]; exact cmp_int op_gt _ _
  · cases h; rw [leB_eq]; exact cmp_int op_ge _ _
  · rename_i i j
    cases h
    refine ⟨_, op_lt_str, fun I H v u Q _ d1 d2 q => ?_⟩
    obtain rfl := pk_str d1
    obtain rfl := pk_str d2
    exact ⟨i, j, rfl, rfl, q⟩
  · rename_i i j
    cases h
    rw [eqB_eq]
    have := eqs (x := .int i) (y := .int j) (d := .int i) (e := .int j) (fun _ _ _ h => pk_int h) (fun _ _ _ h => pk_int h) rfl
    simpa using this
  · rename_i i j
    cases h
    have := eqs (x := .str i) (y := .str j) (d := .str i) (e := .str j) (fun _ _ _ h => pk_str h) (fun _ _ _ h => pk_str h) rfl
    simpa using this
  · rename_i i j
    cases h
    have := eqs (x := .bl i) (y := .bl j) (d := .bool i) (e := .bool j) (fun _ _ _ h => pk_bool h) (fun _ _ _ h => pk_bool h) rfl
    simpa using this
  · split at h <;> cases h
    rename_i hc
    exact cmp_eqD hu hc
  · rename_i i j
    cases h
    rw [eqB_eq]
    have := nes (x := .int i) (y := .int j) (d := .int i) (e := .int j) (fun _ _ _ h => pk_int h) (fun _ _ _ h => pk_int h) rfl
    simpa using this
  · rename_i i j
    cases h
    have := nes (x := .str i) (y := .str j) (d := .str i) (e := .str j) (fun _ _ _ h => pk_str h) (fun _ _ _ h => pk_str h) rfl
    simpa using this
  · rename_i i j
    cases h
    have := nes (x := .bl i) (y := .bl j) (d := .bool i) (e := .bool j) (fun _ _ _ h => pk_bool h) (fun _ _ _ h => pk_bool h) rfl
    simpa using this
  · split at h <;> cases h
    rename_i hc
    exact cmp_neD hu hc
  · split at h <;> cases h
    rename_i hc
    exact cmp_inL hc
  · split at h <;> cases h
    rename_i hc
    exact cmp_inT hc
  · rename_i i j
    cases h
    refine ⟨_, op_in_str, fun I H v u Q _ d1 d2 q => ?_⟩
    obtain rfl := pk_str d1
    obtain rfl := pk_str d2
    exact ⟨i, j, rfl, rfl, q⟩
  · rename_i x kvs _
    split at h <;> cases h
    rename_i hc
    refine ⟨_, op_inDk (Nat.lt_of_le_of_lt (Nat.add_le_add_left (by decide) _) hu), fun I H v u Q e d1 d2 q => ?_⟩
    obtain ⟨a, o, rfl, g, g2, _⟩ := get_of e d1 d2 hc
    refine ⟨a, o, rfl, g, ?_⟩
    rw [if_neg Bool.false_ne_true, g2]
    exact q
  · split at h <;> cases h
    rename_i hc
    exact cmp_ninL hc
  · split at h <;> cases h
    rename_i hc
    exact cmp_ninT hc
  · rename_i i j
    cases h
    refine ⟨_, op_notIn_str, fun I H v u Q _ d1 d2 q => ?_⟩
    obtain rfl := pk_str d1
    obtain rfl := pk_str d2
    exact ⟨i, j, rfl, rfl, q⟩
  · rename_i x kvs _
    split at h <;> cases h
    rename_i hc
    refine ⟨_, op_ninDk (Nat.lt_of_le_of_lt (Nat.add_le_add_left (by decide) _) hu), fun I H v u Q e d1 d2 q => ?_⟩
    obtain ⟨a, o, rfl, g, g2, _⟩ := get_of e d1 d2 hc
    refine ⟨a, o, rfl, g, ?_⟩
    rw [if_pos rfl, g2]
    exact q
  · cases h; exact isn rfl
  · rename_i hx
    cases h
    exact isn (by unfold isN; split <;> first | rfl | (exact absurd rfl hx))
  · cases h; exact ntn rfl
  · rename_i hx
    cases h
    exact ntn (by unfold isN; split <;> first | rfl | (exact absurd rfl hx))
  · rename_i i j
    cases h
    refine ⟨_, op_isBl, fun I H v u Q e d1 d2 q => ?_⟩
    obtain rfl := pk_bool d1
    obtain rfl := pk_bool d2
    exact ⟨i, j, rfl, rfl, q⟩
  · rename_i i j
    cases h
    refine ⟨_, op_notBl, fun I H v u Q e d1 d2 q => ?_⟩
    obtain rfl := pk_bool d1
    obtain rfl := pk_bool d2
    exact ⟨i, j, rfl, rfl, q⟩
  · cases h
theorem noMark_of {op : CmpOp} {b : Expr} (h : notSet b = true) : behindInMarks op b = false := by
  cases b <;> first | rfl | cases h
/-- the way of a comparison, one or two -/
theorem snd_cmp1 (cx : CtxOk k C X) (sn : Snd C X R) {a b : Expr} {op : CmpOp} {s s' : S} {kb : Bool} (hm : cmpE C R a [op] [b] s = .ok kb s') : notSet b = true ∧ ∃ r, OpR X (compareOp op) r ∧
    ∀ (F : Fx) (I H : Hp) (σ : St) (Q : VK), Rel X.K F I H σ s → (∀ I' H', Same I I' → Rel X.K F I' H' σ s' → Q (.bl kb) H') → tOp r (EvE X a) (EvE X b) σ H Q := by
  unfold cmpE at hm
  simp only at hm
  by_cases hb : notSet b = true
  · rw [if_pos hb] at hm
    obtain ⟨x, y, e, h⟩ := snd_two cx sn hm
    obtain ⟨r, hr, hq⟩ := cmp_ok cx.room.units e
    exact ⟨hb, r, hr, fun F I H σ Q Rl q => h F I H σ (fun v u H2 => r v u H2 Q) Rl fun v u I2 H2 i2 R2 d1 d2 => hq I2 H2 v u Q R2.le d1 d2 (q I2 H2 i2 R2)⟩
  · rw [if_neg hb] at hm
    cases hm
theorem snd_cmp2 (cx : CtxOk k C X) (sn : Snd C X R) {a b c : Expr} {op op' : CmpOp} {s s' : S} {kb : Bool} (hm : cmpE C R a [op, op'] [b, c] s = .ok kb s') : notSet c = true ∧ ∃ r r', OpR X (compareOp op) r ∧ OpR X (compareOp op') r' ∧
    ∀ (F : Fx) (I H : Hp) (σ : St) (Q : VK), Rel X.K F I H σ s → (∀ I' H', Same I I' → Rel X.K F I' H' σ s' → Q (.bl kb) H') → tChain r r' (EvE X a) (EvE X b) (EvE X c) σ H Q := by
  unfold cmpE at hm
  simp only at hm
  by_cases hb : (notSet b && notSet c) = true
  · rw [if_pos hb] at hm
    rw [Bool.and_eq_true] at hb
    obtain ⟨x, s1, h1, h2⟩ := bnd_ok hm
    obtain ⟨y, s2, h3, h4⟩ := bnd_ok h2
    obtain ⟨k1, s3, h5, h6⟩ := bnd_ok h4
    obtain ⟨e, rfl⟩ := lift_ok h5
    obtain ⟨r, hr, hq⟩ := cmp_ok cx.room.units e
    cases k1 with
    | false =>
      rw [if_neg Bool.false_ne_true] at h6
      obtain ⟨rfl, rfl⟩ := ret_ok h6
      refine ⟨hb.2, r, (fun _ _ _ _ => False), hr, (fun _ _ _ _ _ _ _ _ _ _ _ _ h => h.elim), fun F I H σ Q Rl q => ?_⟩
      refine snd_dE sn.e a s x s1 h1 F I H σ _ Rl fun v I1 H1 i1 R1 d1 => ?_
      refine snd_dE sn.e b s1 y _ h3 F I1 H1 σ _ R1 fun u I2 H2 i2 R2 d2 => ?_
      refine hq I2 H2 v u _ R2.le (.dat (d1.mono i2)) (.dat d2) ⟨false, rfl, ?_⟩
      rw [if_neg Bool.false_ne_true]
      exact q I2 H2 (i1.trans i2) R2
    | true =>
      rw [if_pos rfl] at h6
      obtain ⟨z, s4, h7, h8⟩ := bnd_ok h6
      obtain ⟨e', rfl⟩ := lift_ok h8
      obtain ⟨r', hr', hq'⟩ := cmp_ok cx.room.units e'
      refine ⟨hb.2, r, r', hr, hr', fun F I H σ Q Rl q => ?_⟩
      refine snd_dE sn.e a s x s1 h1 F I H σ _ Rl fun v I1 H1 i1 R1 d1 => ?_
      refine snd_dE sn.e b s1 y _ h3 F I1 H1 σ _ R1 fun u I2 H2 i2 R2 d2 => ?_
      refine hq I2 H2 v u _ R2.le (.dat (d1.mono i2)) (.dat d2) ⟨true, rfl, ?_⟩
      rw [if_pos rfl]
      refine snd_dE sn.e c _ z _ h7 F I2 H2 σ _ R2 fun w I3 H3 i3 R3 d3 => ?_
      exact hq' I3 H3 u w Q R3.le (.dat (d2.mono i3)) (.dat d3) (q I3 H3 (i1.trans (i2.trans i3)) R3)
  · rw [if_neg hb] at hm
    cases hm
theorem last_marks {op op' : CmpOp} {b c : Expr} (h : notSet c = true) : lastMarks [op, op'] [b, c] = false := by
  show behindInMarks op' c = false
  exact noMark_of h
theorem snd_cmpE (cx : CtxOk k C X) (sn : Snd C X R) {a : Expr} {ops : List CmpOp} {bs : List Expr} {pos : Pos} : SndE X (.Compare a ops bs pos) (bnd (cmpE C R a ops bs) fun k => ret (.d (.bool k))) := by
  intro s d s' hm F I H σ Q Rl q
  obtain ⟨kb, s1, h1, h2⟩ := bnd_ok hm
  obtain ⟨rfl, rfl⟩ := ret_ok h2
  match ops, bs, h1 with
  | [op], [b], h1 =>
    obtain ⟨hb, r, hr, hq⟩ := snd_cmp1 cx sn h1
    exact ofPE (pe_cmpR hr (pe_w a) (pe_w b) (noMark_of hb)) (hq F I H σ _ Rl fun I' H' i1 R1 => q _ I' H' i1 (R1.pushD (.bl kb)))
  | [op, op'], [b, c], h1 =>
    obtain ⟨hb, r, r', hr, hr', hq⟩ := snd_cmp2 cx sn h1
    exact ofPE (pe_chain hr hr' (pe_w a) (pe_w b) (pe_w c) (last_marks hb)) (hq F I H σ _ Rl fun I' H' i1 R1 => q _ I' H' i1 (R1.pushD (.bl kb)))
  | [], _, h1 => cases h1
  | [_], [], h1 => cases h1
  | [_], _ :: _ :: _, h1 => cases h1
  | [_, _], [], h1 => cases h1
  | [_, _], [_], h1 => cases h1
  | [_, _], _ :: _ :: _ :: _, h1 => cases h1
  | _ :: _ :: _ :: _, _, h1 => cases h1
theorem snd_cmpT (cx : CtxOk k C X) (sn : Snd C X R) {a : Expr} {ops : List CmpOp} {bs : List Expr} {pos : Pos} : SndT X (.Compare a ops bs pos) (cmpE C R a ops bs) := by
  intro s kb s' h1 F I H σ Q Rl q
  match ops, bs, h1 with
  | [op], [b], h1 =>
    obtain ⟨hb, r, hr, hq⟩ := snd_cmp1 cx sn h1
    exact ofPT (pt_cmpR hr (pe_w a) (pe_w b) (noMark_of hb)) (hq F I H σ _ Rl fun I' H' i1 R1 => ⟨kb, rfl, q I' H' i1 R1⟩)
  | [op, op'], [b, c], h1 =>
    obtain ⟨hb, r, r', hr, hr', hq⟩ := snd_cmp2 cx sn h1
    exact ofPT (pt_chain hr hr' (pe_w a) (pe_w b) (pe_w c) (last_marks hb)) (hq F I H σ _ Rl fun I' H' i1 R1 => ⟨kb, rfl, q I' H' i1 R1⟩)
  | [], _, h1 => cases h1
  | [_], [], h1 => cases h1
  | [_], _ :: _ :: _, h1 => cases h1
  | [_, _], [], h1 => cases h1
  | [_, _], [_], h1 => cases h1
  | [_, _], _ :: _ :: _ :: _, h1 => cases h1
  | _ :: _ :: _ :: _, _, h1 => cases h1
end
end Nw
end

set_option Elab.async false
set_option linter.all false
set_option maxRecDepth 100000
set_option maxHeartbeats 4000000
noncomputable section
namespace Nw
open PySem L2 PySem.Spec

section
variable {X : Cx} {k : Nat} {C : Cf} {R : EvK}
/-! ### lists of expressions -/
def EvA (X : Cx) (es : List Expr) : TA := fun σ H Q => ∀ (pos : Pos) (pins : List (Addr × Obj)) (s : Shared), Inv X pins σ H s → wpAny (model X.prog X.w) X.A (spliced (backTo pos (starEach es X.env))) (AP X pins σ Q) X.xe s
theorem pa_w (es : List Expr) : PA X es (EvA X es) := ⟨fun pos pins s _ _ _ I h => h pos pins s I⟩
theorem ofPA {es : List Expr} {t : TA} {σ : St} {H : Hp} {Q : List V → Hp → Prop} (h : PA X es t) (w : t σ H Q) : EvA X es σ H Q := fun pos pins s I => h.run pos pins s σ H Q I w
theorem star_cons {e : Expr} (h : noStar e = true) (es : List Expr) (env : Env) : starEach (e :: es) env = (false, eval e env) :: starEach es env := by
  cases e <;> first | rfl | cases h
theorem noStars_any : ∀ {es : List Expr} {env : Env} {pos : Pos}, es.all noStar = true → (backTo pos (starEach es env)).any (·.1) = false
  | [], _, _, _ => rfl
  | e :: es, env, pos, h => by
    rw [List.all_cons, Bool.and_eq_true] at h
    rw [star_cons h.1]
    show (false || (backTo pos (starEach es env)).any (·.1)) = false
    rw [Bool.false_or]
    exact noStars_any h.2
theorem snd_evd (sn : ∀ e, SndE X e (R.e e)) : ∀ (es : List Expr), es.all noStar = true → ∀ (s : S) (ds : List D) (s' : S), evd R es s = .ok ds s' → ∀ (F : Fx) (I H : Hp) (σ : St) (Q : List V → Hp → Prop), Rel X.K F I H σ s →
    (∀ vs I' H', Same I I' → Rel X.K F I' H' σ s' → DtAll X.K I' vs ds → Q vs H') → EvA X es σ H Q
  | [], _, s, ds, s', hm, F, I, H, σ, Q, Rl, q => by
    obtain ⟨rfl, rfl⟩ := ret_ok (show ret [] s = .ok ds s' from hm)
    exact ofPA pa_nil (q [] I H (Same.refl I) Rl .nil)
  | e :: es, hs, s, ds, s', hm, F, I, H, σ, Q, Rl, q => by
    rw [List.all_cons, Bool.and_eq_true] at hs
    obtain ⟨d, s1, h1, h2⟩ := bnd_ok (show bnd (dE R e) (fun d => bnd (evd R es) fun ds => ret (d :: ds)) s = .ok ds s' from hm)
    obtain ⟨ds', s2, h3, h4⟩ := bnd_ok h2
    obtain ⟨rfl, rfl⟩ := ret_ok h4
    refine ofPA (pa_cons (pe_w e) (pa_w es) (star_cons hs.1 es X.env)) ?_
    refine snd_dE sn e s d s1 h1 F I H σ _ Rl fun v I1 H1 i1 R1 d1 => ?_
    refine snd_evd sn es hs.2 s1 ds' _ h3 F I1 H1 σ _ R1 fun vs I2 H2 i2 R2 d2 => ?_
    exact q (v :: vs) I2 H2 (i1.trans i2) R2 (.cons (d1.mono i2) d2)
theorem snd_tuple (sn : ∀ e, SndE X e (R.e e)) {es : List Expr} {x1 : Nat} {pos : Pos} (hs : es.all noStar = true) : SndE X (.Tuple es x1 pos) (bnd (evd R es) fun ds => lift (if ds.length ≤ sizeLine then some (.d (.tuple ds)) else none)) := by
  intro s d s' hm F I H σ Q Rl q
  obtain ⟨ds, s1, h1, h2⟩ := bnd_ok hm
  obtain ⟨e, rfl⟩ := lift_ok h2
  split at e <;> cases e
  rename_i hz
  refine ofPE (pe_tup (pa_w es)) (snd_evd sn es hs s ds _ h1 F I H σ _ Rl fun vs I1 H1 i1 R1 d1 => ⟨by rw [d1.len]; exact hz, fun p hp => ?_⟩)
  obtain ⟨a1, a2, a3⟩ := lay_tup R1 hp d1
  exact q _ _ _ (i1.trans a1) (a2.pushD a3)
theorem snd_listD (sn : ∀ e, SndE X e (R.e e)) {es : List Expr} {pos : Pos} (hs : es.all noStar = true) : SndE X (.List es pos) (bnd (evd R es) fun ds => lift (if ds.length ≤ sizeLine then some (.l (ds.map T.d)) else none)) := by
  intro s d s' hm F I H σ Q Rl q
  obtain ⟨ds, s1, h1, h2⟩ := bnd_ok hm
  obtain ⟨e, rfl⟩ := lift_ok h2
  split at e <;> cases e
  rename_i hz
  refine ofPE (pe_lst (pa_w es)) (snd_evd sn es hs s ds _ h1 F I H σ _ Rl fun vs I1 H1 i1 R1 d1 => ⟨by rw [d1.len]; exact hz, fun p hp => ?_⟩)
  exact q _ I1 _ i1 (push_lst R1 hp d1)
theorem pushes_push {F : Fx} {v : V} {t : T} {ps : List (V × T)} : (F.push v t).pushes ps = F.pushes ((v, t) :: ps) := by
  unfold Fx.push Fx.pushes
  simp
theorem push_eq {F : Fx} {v : V} {t : T} : F.pushes [(v, t)] = F.push v t := rfl
theorem pushes_nil {F : Fx} : F.pushes [] = F := by
  unfold Fx.pushes
  simp
/-- trees from the left, held by nobody as yet -/
theorem snd_evs (sn : ∀ e, SndE X e (R.e e)) : ∀ (es : List Expr), es.all noStar = true → ∀ (s : S) (ts : List T) (s' : S), evs R es s = .ok ts s' → ∀ (F : Fx) (I H : Hp) (σ : St) (Q : List V → Hp → Prop), Rel X.K F I H σ s →
    (∀ vs I' H', Same I I' → vs.length = ts.length → Rel X.K (F.pushes (vs.zip ts)) I' H' σ s' → Q vs H') → EvA X es σ H Q
  | [], _, s, ds, s', hm, F, I, H, σ, Q, Rl, q => by
    obtain ⟨rfl, rfl⟩ := ret_ok (show ret [] s = .ok ds s' from hm)
    exact ofPA pa_nil (q [] I H (Same.refl I) rfl (by rw [List.zip_nil_left, pushes_nil]; exact Rl))
  | e :: es, hs, s, ds, s', hm, F, I, H, σ, Q, Rl, q => by
    rw [List.all_cons, Bool.and_eq_true] at hs
    obtain ⟨d, s1, h1, h2⟩ := bnd_ok (show bnd (R.e e) (fun d => bnd (evs R es) fun ds => ret (d :: ds)) s = .ok ds s' from hm)
    obtain ⟨ds', s2, h3, h4⟩ := bnd_ok h2
    obtain ⟨rfl, rfl⟩ := ret_ok h4
    refine ofPA (pa_cons (pe_w e) (pa_w es) (star_cons hs.1 es X.env)) ?_
    refine sn e s d s1 h1 F I H σ _ Rl fun v I1 H1 i1 R1 => ?_
    refine snd_evs sn es hs.2 s1 ds' _ h3 (F.push v d) I1 H1 σ _ R1 fun vs I2 H2 i2 l2 R2 => ?_
    rw [pushes_push] at R2
    exact q (v :: vs) I2 H2 (i1.trans i2) (by simp [l2]) R2
theorem zip_fst {α β : Type} : ∀ {xs : List α} {ys : List β}, xs.length = ys.length → (xs.zip ys).map (·.1) = xs
  | [], [], _ => rfl
  | x :: xs, y :: ys, h => by simp [zip_fst (xs := xs) (ys := ys) (by simpa using h)]
theorem zip_snd {α β : Type} : ∀ {xs : List α} {ys : List β}, xs.length = ys.length → (xs.zip ys).map (·.2) = ys
  | [], [], _ => rfl
  | x :: xs, y :: ys, h => by simp [zip_snd (xs := xs) (ys := ys) (by simpa using h)]
/-- a new list of trees that nobody held -/
theorem Rel.list {K : PySem.W.Frag} {F : Fx} {I H : Hp} {σ : St} {s : S} {vs : List V} {ts : List T} (hl : vs.length = ts.length) (Rl : Rel K (F.pushes (vs.zip ts)) I H σ s) {p : Addr} (hp : H p = none) : Rel K (F.push (.ref p) (.l ts)) I (upd H p (.lst vs)) σ s := by
  obtain ⟨ow, Rl⟩ := Rl
  obtain ⟨ff, h1, h2, h3⟩ := Rl.block
  rw [zip_fst hl, zip_snd hl] at h1
  have hI : I p = none := Rl.le.free hp
  have hpf : p ∉ ff := fun z => by
    obtain ⟨j, _, e⟩ := h3 p z
    obtain ⟨o, ho⟩ := Rl.liv p _ e
    rw [hp] at ho
    cases ho
  have sH : Same H (upd H p (.lst vs)) := same_new hp _
  rw [← push_eq]
  refine RelO.reblock (ff := ff) (fg := p :: ff) Rl h3 (Same.refl I) (same_upd2 Rl.le hI) (fun a o e => .inl e) (fun a o _ e => sH a o e) ?_ (List.nodup_cons.mpr ⟨hpf, h2⟩) (fun a ha => ?_)
  · exact TRs.one (.l upd_same (h1.mono (Same.refl I) fun a _ o e => sH a o e))
  · rcases List.mem_cons.mp ha with rfl | ha
    · exact ⟨hI, .inl hp⟩
    · obtain ⟨j, _, e⟩ := h3 a ha
      exact ⟨(Rl.own a _ e).1, .inr ha⟩
theorem snd_list (sn : ∀ e, SndE X e (R.e e)) {es : List Expr} {pos : Pos} (hs : es.all noStar = true) : SndE X (.List es pos) (bnd (evs R es) fun ts => lift (if ts.length ≤ sizeLine then some (.l ts) else none)) := by
  intro s d s' hm F I H σ Q Rl q
  obtain ⟨ds, s1, h1, h2⟩ := bnd_ok hm
  obtain ⟨e, rfl⟩ := lift_ok h2
  split at e <;> cases e
  rename_i hz
  refine ofPE (pe_lst (pa_w es)) (snd_evs sn es hs s _ _ h1 F I H σ _ Rl fun vs I1 H1 i1 l1 R1 => ⟨by rw [l1]; exact hz, fun p hp => ?_⟩)
  exact q _ I1 _ i1 (R1.list l1 hp)

/-! ### not, -, and, or, if -/
theorem snd_notV (sn : ∀ e, SndE X e (R.e e)) {a : Expr} {pos : Pos} : SndE X (.UnaryOp .Not a pos) (bnd (dE R a) fun x => lift ((boolD x).map fun c => T.d (.bool (!c)))) := by
  intro s d s' hm F I H σ Q Rl q
  obtain ⟨x, s1, h1, h2⟩ := bnd_ok hm
  obtain ⟨e, rfl⟩ := lift_ok h2
  cases x <;> try (cases e; done)
  rename_i c
  cases e
  refine ofPE (pe_not (pe_w a)) (snd_dE sn a s _ _ h1 F I H σ _ Rl fun v I1 H1 i1 R1 d1 => ?_)
  cases d1
  exact ⟨c, rfl, q _ I1 H1 i1 (R1.pushD (.bl _))⟩
theorem snd_neg (sn : ∀ e, SndE X e (R.e e)) {a : Expr} {pos : Pos} : SndE X (.UnaryOp .USub a pos) (bnd (dE R a) fun x => lift ((negD x).map T.d)) := by
  intro s d s' hm F I H σ Q Rl q
  obtain ⟨x, s1, h1, h2⟩ := bnd_ok hm
  obtain ⟨e, rfl⟩ := lift_ok h2
  cases x <;> try (cases e; done)
  rename_i c
  cases e
  refine ofPE (pe_un un_neg (pe_w a)) (snd_dE sn a s _ _ h1 F I H σ _ Rl fun v I1 H1 i1 R1 d1 => ?_)
  cases d1
  exact ⟨c, rfl, q _ I1 H1 i1 (R1.pushD (.int _))⟩
theorem snd_andV (sn : ∀ e, SndE X e (R.e e)) {pos : Pos} : ∀ es : List Expr, SndE X (.BoolOp .And es pos) (andV R es)
  | [] => fun s d s' hm => by cases hm
  | [a] => fun s d s' hm F I H σ Q Rl q => ofPE (pe_one (pe_w a)) (sn a s d s' hm F I H σ Q Rl q)
  | a :: b :: r => fun s d s' hm F I H σ Q Rl q => by
    obtain ⟨x, s1, h1, h2⟩ := bnd_ok (show bnd (dE R a) (fun x => bnd (lift (boolD x)) fun c => if c then andV R (b :: r) else ret (.d (.bool false))) s = .ok d s' from hm)
    obtain ⟨c, s2, h3, h4⟩ := bnd_ok h2
    obtain ⟨e, rfl⟩ := lift_ok h3
    cases x <;> try (cases e; done)
    cases e
    refine ofPE (pe_and (pe_w a) (pe_w (.BoolOp .And (b :: r) pos))) (snd_dE sn a s _ _ h1 F I H σ _ Rl fun v I1 H1 i1 R1 d1 => ?_)
    cases d1
    refine ⟨c, rfl, ?_⟩
    cases c with
    | true =>
      rw [if_pos rfl] at h4 ⊢
      exact snd_andV sn (b :: r) _ d s' h4 F I1 H1 σ Q R1 fun v I2 H2 i2 => q v I2 H2 (i1.trans i2)
    | false =>
      rw [if_neg Bool.false_ne_true] at h4 ⊢
      obtain ⟨rfl, rfl⟩ := ret_ok h4
      exact q _ I1 H1 i1 (R1.pushD (.bl _))
theorem snd_orV (sn : ∀ e, SndE X e (R.e e)) {pos : Pos} : ∀ es : List Expr, SndE X (.BoolOp .Or es pos) (orV R es)
  | [] => fun s d s' hm => by cases hm
  | [a] => fun s d s' hm F I H σ Q Rl q => ofPE (pe_one (pe_w a)) (sn a s d s' hm F I H σ Q Rl q)
  | a :: b :: r => fun s d s' hm F I H σ Q Rl q => by
    obtain ⟨x, s1, h1, h2⟩ := bnd_ok (show bnd (dE R a) (fun x => bnd (lift (boolD x)) fun c => if c then ret (.d (.bool true)) else orV R (b :: r)) s = .ok d s' from hm)
    obtain ⟨c, s2, h3, h4⟩ := bnd_ok h2
    obtain ⟨e, rfl⟩ := lift_ok h3
    cases x <;> try (cases e; done)
    cases e
    refine ofPE (pe_or (pe_w a) (pe_w (.BoolOp .Or (b :: r) pos))) (snd_dE sn a s _ _ h1 F I H σ _ Rl fun v I1 H1 i1 R1 d1 => ?_)
    cases d1
    refine ⟨c, rfl, ?_⟩
    cases c with
    | false =>
      rw [if_neg Bool.false_ne_true] at h4 ⊢
      exact snd_orV sn (b :: r) _ d s' h4 F I1 H1 σ Q R1 fun v I2 H2 i2 => q v I2 H2 (i1.trans i2)
    | true =>
      rw [if_pos rfl] at h4 ⊢
      obtain ⟨rfl, rfl⟩ := ret_ok h4
      exact q _ I1 H1 i1 (R1.pushD (.bl _))
/-- a chain of tests, whatever its whole is -/
def EvW (X : Cx) (e : Expr) : TT := fun σ H Q => ∀ (whole : Sem Value) (pins : List (Addr × Obj)) (s : Shared), Inv X pins σ H s → wpAny (model X.prog X.w) X.A (isTrue e X.env whole) (TP X pins σ Q) X.xe s
theorem pw_w (e : Expr) : PW X e (EvW X e) := ⟨fun wh pins s _ _ _ I h => h wh pins s I⟩
theorem ofPW {e : Expr} {t : TT} {σ : St} {H : Hp} {Q : Bool → Hp → Prop} (h : PW X e t) (w : t σ H Q) : EvW X e σ H Q := fun wh pins s I => h.run wh pins s σ H Q I w
def SndW (X : Cx) (e : Expr) (m : S → Res Bool) : Prop := ∀ s b s', m s = .ok b s' → ∀ (F : Fx) (I H : Hp) (σ : St) (Q : Bool → Hp → Prop), Rel X.K F I H σ s →
  (∀ I' H', Same I I' → Rel X.K F I' H' σ s' → Q b H') → EvW X e σ H Q
theorem sndT_W {e : Expr} {m : S → Res Bool} (h : SndW X e m) : SndT X e m := fun s b s' hm F I H σ Q Rl q pins sh inv => h s b s' hm F I H σ Q Rl q _ pins sh inv
theorem snd_andT (sn : ∀ e, SndT X e (R.t e)) {pos : Pos} : ∀ es : List Expr, SndW X (.BoolOp .And es pos) (andT R es)
  | [] => fun s d s' hm => by cases hm
  | [a] => fun s d s' hm F I H σ Q Rl q => ofPW (pw_and1 (pt_w a)) (sn a s d s' hm F I H σ Q Rl q)
  | a :: b :: r => fun s d s' hm F I H σ Q Rl q => by
    obtain ⟨c, s1, h1, h4⟩ := bnd_ok (show bnd (R.t a) (fun c => if c then andT R (b :: r) else ret false) s = .ok d s' from hm)
    refine ofPW (pw_and (pt_w a) (pw_w (.BoolOp .And (b :: r) pos))) (sn a s _ _ h1 F I H σ _ Rl fun I1 H1 i1 R1 => ?_)
    cases c with
    | true =>
      rw [if_pos rfl] at h4 ⊢
      exact snd_andT sn (b :: r) _ d s' h4 F I1 H1 σ Q R1 fun I2 H2 i2 => q I2 H2 (i1.trans i2)
    | false =>
      rw [if_neg Bool.false_ne_true] at h4 ⊢
      obtain ⟨rfl, rfl⟩ := ret_ok h4
      exact q I1 H1 i1 R1
theorem snd_orT (sn : ∀ e, SndT X e (R.t e)) {pos : Pos} : ∀ es : List Expr, SndW X (.BoolOp .Or es pos) (orT R es)
  | [] => fun s d s' hm => by cases hm
  | [a] => fun s d s' hm F I H σ Q Rl q => ofPW (pw_or1 (pt_w a)) (sn a s d s' hm F I H σ Q Rl q)
  | a :: b :: r => fun s d s' hm F I H σ Q Rl q => by
    obtain ⟨c, s1, h1, h4⟩ := bnd_ok (show bnd (R.t a) (fun c => if c then ret true else orT R (b :: r)) s = .ok d s' from hm)
    refine ofPW (pw_or (pt_w a) (pw_w (.BoolOp .Or (b :: r) pos))) (sn a s _ _ h1 F I H σ _ Rl fun I1 H1 i1 R1 => ?_)
    cases c with
    | false =>
      rw [if_neg Bool.false_ne_true] at h4 ⊢
      exact snd_orT sn (b :: r) _ d s' h4 F I1 H1 σ Q R1 fun I2 H2 i2 => q I2 H2 (i1.trans i2)
    | true =>
      rw [if_pos rfl] at h4 ⊢
      obtain ⟨rfl, rfl⟩ := ret_ok h4
      exact q I1 H1 i1 R1
theorem snd_notT (sn : ∀ e, SndT X e (R.t e)) {a : Expr} {pos : Pos} : SndT X (.UnaryOp .Not a pos) (bnd (R.t a) fun c => ret (!c)) := by
  intro s d s' hm F I H σ Q Rl q
  obtain ⟨c, s1, h1, h2⟩ := bnd_ok hm
  obtain ⟨rfl, rfl⟩ := ret_ok h2
  exact ofPT (pt_not (pt_w a)) (sn a s _ _ h1 F I H σ _ Rl fun I1 H1 i1 R1 => q I1 H1 i1 R1)
theorem snd_ifE (sn : Snd C X R) {c a b : Expr} {pos : Pos} : SndE X (.IfExp c a b pos) (bnd (R.t c) fun k => if k then R.e a else R.e b) := by
  intro s d s' hm F I H σ Q Rl q
  obtain ⟨k, s1, h1, h2⟩ := bnd_ok hm
  refine ofPE (pe_ifExp (pt_w c) (pe_w a) (pe_w b)) (sn.t c s _ _ h1 F I H σ _ Rl fun I1 H1 i1 R1 => ?_)
  cases k with
  | true =>
    rw [if_pos rfl] at h2 ⊢
    exact sn.e a _ d s' h2 F I1 H1 σ Q R1 fun v I2 H2 i2 => q v I2 H2 (i1.trans i2)
  | false =>
    rw [if_neg Bool.false_ne_true] at h2 ⊢
    exact sn.e b _ d s' h2 F I1 H1 σ Q R1 fun v I2 H2 i2 => q v I2 H2 (i1.trans i2)
/-- the truth of data -/
theorem truth_of {K : PySem.W.Frag} {I H : Hp} (e : Same I H) {v : V} {d : D} {b : Bool} (h : Dt K I v d) (t : truthD d = some b) : TruV K v H b := by
  cases h with
  | non => cases t; rfl
  | bl c => cases t; rfl
  | int i => cases t; rfl
  | str x =>
    have t' : (if x.length ≤ sizeLine then some ((x.length : Int) != 0) else none) = some b := t
    by_cases hz : x.length ≤ sizeLine
    · rw [if_pos hz] at t'
      cases t'
      exact ⟨hz, rfl⟩
    · rw [if_neg hz] at t'
      cases t'
  | lst h1 h2 =>
    cases t
    refine .inl ⟨_, e.seq h1, ?_⟩
    cases h2 <;> rfl
  | tup h1 h2 =>
    cases t
    refine .inr (.inl ⟨_, sqT_mono e h1, ?_⟩)
    cases h2 <;> rfl
  | dct => cases t
  | exc => cases t
theorem snd_truth (sn : ∀ e, SndE X e (R.e e)) {e : Expr} (he : ∀ whole, isTrue e X.env whole = (do let v ← whole; standAt e.pos; holding [v] (truthy v))) : SndT X e (bnd (dE R e) fun d => lift (truthD d)) := by
  intro s b s' hm F I H σ Q Rl q
  obtain ⟨d, s1, h1, h2⟩ := bnd_ok hm
  obtain ⟨e2, rfl⟩ := lift_ok h2
  exact ofPT (pt_truth (pe_w e) he) (snd_dE sn e s _ _ h1 F I H σ _ Rl fun v I1 H1 i1 R1 d1 => ⟨b, truth_of R1.le d1 e2, q I1 H1 i1 R1⟩)

/-! ### subscripts -/
theorem atI_of {K : PySem.W.Frag} {I : Hp} {vs : List V} {ds : List D} (h : DtAll K I vs ds) {i : Int} {d : D} (e : atI ds i = some d) : ∃ v, atI vs i = some v ∧ Dt K I v d := by
  unfold atI at e ⊢
  rw [h.len]
  cases q : ixN ds.length i with
  | none => rw [q] at e; cases e
  | some j =>
    rw [q] at e
    exact h.get e
/-- a rule for a subscript of data -/
theorem ix_of (hu : X.A.units + 1 < cLine) {c kd d : D} (h : ixD c kd = some d) : ∃ r, IxR X r ∧ ∀ (I H : Hp) (v u : V) (Q : VK), Same I H → Pk X.K I H v c → Dt X.K I u kd → (∀ w, Dt X.K I w d → Q w H) → r v u H Q := by
  unfold ixD at h
  split at h
  · rename_i xs i
    refine ⟨_, ix_list, fun I H v u Q e p d2 q => ?_⟩
    obtain ⟨a, vs, rfl, h1, h2⟩ := pk_list e p
    cases d2
    obtain ⟨w, h3, h4⟩ := atI_of h2 h
    exact ⟨a, vs, i, w, rfl, rfl, h1, h3, q w h4⟩
  · rename_i xs i
    refine ⟨_, ix_tup, fun I H v u Q e p d2 q => ?_⟩
    obtain ⟨a, vs, rfl, h1, h2⟩ := pk_tup e p
    cases d2
    obtain ⟨w, h3, h4⟩ := atI_of h2 h
    exact ⟨a, vs, i, w, rfl, rfl, h1, h3, q w h4⟩
  · rename_i x i
    split at h
    · rename_i hz
      cases q2 : atI x.cps.toList i with
      | none => rw [q2] at h; cases h
      | some c =>
        rw [q2] at h
        cases h
        refine ⟨_, ix_str, fun I H v u Q e p d2 q => ?_⟩
        obtain rfl := pk_str p
        cases d2
        exact ⟨x, i, c, rfl, rfl, hz, q2, q _ (.str _)⟩
    · cases h
  · split at h
    · rename_i hc
      refine ⟨_, ix_dk hu, fun I H v u Q e p d2 q => ?_⟩
      obtain ⟨a, o, rfl, g, _, g3⟩ := get_of e (.dat d2) p hc
      obtain ⟨w, rfl, dw⟩ := g3 d h
      exact ⟨a, w, rfl, g, q w dw⟩
    · cases h
  · cases h
theorem snd_ix (cx : CtxOk k C X) (sn : ∀ e, SndE X e (R.e e)) {a i : Expr} {pos : Pos} (hs : notSlice i = true) : SndE X (.Subscript a i pos) (bnd (dE R a) fun c => bnd (dE R i) fun k => lift ((ixD c k).map T.d)) := by
  intro s d s' hm F I H σ Q Rl q
  obtain ⟨c, s1, h1, h2⟩ := bnd_ok hm
  obtain ⟨kd, s2, h3, h4⟩ := bnd_ok h2
  obtain ⟨e, rfl⟩ := lift_ok h4
  obtain ⟨d', e', rfl⟩ := Option.map_eq_some_iff.mp e
  obtain ⟨r, hr, hq⟩ := ix_of (X := X) (hu_of cx.room) e'
  refine ofPE (pe_ix hr (pe_w a) (pe_w i) (plain_of hs)) (snd_dE sn a s _ _ h1 F I H σ _ Rl fun v I1 H1 i1 R1 d1 => ?_)
  refine snd_dE sn i s1 _ _ h3 F I1 H1 σ _ R1 fun u I2 H2 i2 R2 d2 => ?_
  exact hq I2 H2 v u Q R2.le (.dat (d1.mono i2)) d2 fun w dw => q w I2 H2 (i1.trans i2) (R2.pushD dw)
theorem snd_ixN (cx : CtxOk k C X) (sn : ∀ e, SndE X e (R.e e)) {x : Str} {p : Pos} {j : Nat} {i : Expr} {pos : Pos} (hj : slotOf C x = some j) (hs : notSlice i = true) :
    SndE X (.Subscript (.Name x p) i pos) (bnd (pkS j) fun _ => bnd (dE R i) fun k => bnd (pkS j) fun c => lift ((ixD c k).map T.d)) := by
  intro s d s' hm F I H σ Q Rl q
  obtain ⟨c0, s0, h0, hm2⟩ := bnd_ok hm
  obtain ⟨e0, v, hv, _⟩ := pkS_at h0 Rl
  subst e0
  obtain ⟨kd, s1, h1, h2⟩ := bnd_ok hm2
  obtain ⟨c, s2, h3, h4⟩ := bnd_ok h2
  obtain ⟨e, rfl⟩ := lift_ok h4
  obtain ⟨d', e', rfl⟩ := Option.map_eq_some_iff.mp e
  obtain ⟨r, hr, hq⟩ := ix_of (X := X) (hu_of cx.room) e'
  refine ofPE (pe_ix hr (pe_slot cx hj) (pe_w i) (plain_of hs)) ⟨v, hv, snd_dE sn i s0 _ _ h1 F I H σ _ Rl fun u I1 H1 i1 R1 d1 => ?_⟩
  obtain ⟨es, v', hv', pv⟩ := pkS_at h3 R1
  subst es
  rw [hv] at hv'
  cases hv'
  exact hq I1 H1 v u Q R1.le pv d1 fun w dw => q w I1 H1 i1 (R1.pushD dw)
/-- slices -/
theorem cut_of {K : PySem.W.Frag} {I : Hp} {vs : List V} {ds : List D} (h : DtAll K I vs ds) (lo hi : Option Int) : DtAll K I (cutV vs lo hi) (cutD ds lo hi) := by
  unfold cutV cutD
  rw [h.len]
  exact (h.drop _).take _
theorem snd_part (sn : ∀ e, SndE X e (R.e e)) (o : Option Expr) : ∃ t, PO X o t ∧ ∀ s l s', partE R o s = .ok l s' → ∀ (F : Fx) (I H : Hp) (σ : St) (Q : Option Int → Hp → Prop), Rel X.K F I H σ s →
    (∀ I' H', Same I I' → Rel X.K F I' H' σ s' → Q l H') → t σ H Q := by
  cases o with
  | none =>
    refine ⟨_, po_none, fun s l s' hm F I H σ Q Rl q => ?_⟩
    obtain ⟨rfl, rfl⟩ := ret_ok (show ret none s = .ok l s' from hm)
    exact q I H (Same.refl I) Rl
  | some e =>
    refine ⟨_, po_some (pe_w e), fun s l s' hm F I H σ Q Rl q => ?_⟩
    obtain ⟨d, s1, h1, h2⟩ := bnd_ok (show bnd (dE R e) (fun d => lift ((intD d).map some)) s = .ok l s' from hm)
    obtain ⟨e2, rfl⟩ := lift_ok h2
    refine snd_dE sn e s _ _ h1 F I H σ _ Rl fun v I1 H1 i1 R1 d1 => ?_
    cases d1 <;> try (cases e2; done)
    cases e2
    exact ⟨_, rfl, q I1 H1 i1 R1⟩
theorem sl_of {c : D} {d : T} {l h : Option Int} (e : sliceD c l h = some d) : ∃ r, SlR X r ∧ ∀ (F : Fx) (I H : Hp) (σ : St) (s : S) (v : V) (Q : VK), Rel X.K F I H σ s → Pk X.K I H v c → (∀ w I' H', Same I I' → Rel X.K (F.push w d) I' H' σ s → Q w H') → r v l h H Q := by
  unfold sliceD at e
  split at e
  · rename_i xs
    cases e
    refine ⟨_, sl_list, fun F I H σ s v Q Rl p q => ?_⟩
    obtain ⟨a, vs, rfl, h1, h2⟩ := pk_list Rl.le p
    refine ⟨a, vs, rfl, h1, fun t ht => ?_⟩
    exact q _ _ _ (Same.refl I) (push_lst Rl ht (cut_of h2 l h))
  · rename_i xs
    cases e
    refine ⟨_, sl_tupA, fun F I H σ s v Q Rl p q => ?_⟩
    obtain ⟨a, vs, rfl, h1, h2⟩ := pk_tup Rl.le p
    refine ⟨a, vs, rfl, h1, fun ew => ?_, fun _ t ht => ?_⟩
    · have hl := h2.len
      have ec : cutD xs l h = xs := by
        unfold cutD
        rw [← hl, ew.1, ew.2, List.drop_zero, Nat.sub_zero, hl, List.take_length]
      rw [ec] at q
      cases p with
      | dat p => exact q _ I H (Same.refl I) (Rl.pushD p)
    · obtain ⟨a1, a2, a3⟩ := lay_tup Rl ht (cut_of h2 l h)
      exact q _ _ _ a1 (a2.pushD a3)
  · rename_i z
    split at e <;> cases e
    rename_i hz
    refine ⟨_, sl_str, fun F I H σ s v Q Rl p q => ?_⟩
    obtain rfl := pk_str p
    exact ⟨z, rfl, hz, q _ I H (Same.refl I) (Rl.pushD (.str _))⟩
  · cases e
theorem snd_slice (cx : CtxOk k C X) (sn : Snd C X R) {a : Expr} {lo hi : Option Expr} {p2 pos : Pos} :
    SndE X (.Subscript a (.Slice lo hi none p2) pos) (bnd (dE R a) fun c => bnd (partE R lo) fun l => bnd (partE R hi) fun h => lift (sliceD c l h)) := by
  intro s d s' hm F I H σ Q Rl q
  obtain ⟨c, s1, h1, h2⟩ := bnd_ok hm
  obtain ⟨l, s2, h3, h4⟩ := bnd_ok h2
  obtain ⟨h, s3, h5, h6⟩ := bnd_ok h4
  obtain ⟨e, rfl⟩ := lift_ok h6
  obtain ⟨r, hr, hq⟩ := sl_of (X := X) e
  obtain ⟨tl, pl, ql⟩ := snd_part sn.e lo
  obtain ⟨th, ph, qh⟩ := snd_part sn.e hi
  refine ofPE (pe_slice hr (pe_w a) pl ph) (snd_dE sn.e a s _ _ h1 F I H σ _ Rl fun v I1 H1 i1 R1 d1 => ?_)
  refine ql s1 l s2 h3 F I1 H1 σ _ R1 fun I2 H2 i2 R2 => ?_
  refine qh s2 h _ h5 F I2 H2 σ _ R2 fun I3 H3 i3 R3 => ?_
  exact hq F I3 H3 σ s' v Q R3 (.dat (d1.mono (i2.trans i3))) fun w I4 H4 i4 R4 => q w I4 H4 (i1.trans (i2.trans (i3.trans i4))) R4
theorem snd_sliceN (cx : CtxOk k C X) (sn : Snd C X R) {x : Str} {p : Pos} {j : Nat} {lo hi : Option Expr} {p2 pos : Pos} (hj : slotOf C x = some j) :
    SndE X (.Subscript (.Name x p) (.Slice lo hi none p2) pos) (bnd (pkS j) fun _ => bnd (partE R lo) fun l => bnd (partE R hi) fun h => bnd (pkS j) fun c => lift (sliceD c l h)) := by
  intro s d s' hm F I H σ Q Rl q
  obtain ⟨c0, s0, h0, hm2⟩ := bnd_ok hm
  obtain ⟨e0, v, hv, _⟩ := pkS_at h0 Rl
  subst e0
  obtain ⟨l, s2, h3, h4⟩ := bnd_ok hm2
  obtain ⟨h, s3, h5, h6⟩ := bnd_ok h4
  obtain ⟨c, s4, h7, h8⟩ := bnd_ok h6
  obtain ⟨e, rfl⟩ := lift_ok h8
  obtain ⟨r, hr, hq⟩ := sl_of (X := X) e
  obtain ⟨tl, pl, ql⟩ := snd_part sn.e lo
  obtain ⟨th, ph, qh⟩ := snd_part sn.e hi
  refine ofPE (pe_slice hr (pe_slot cx hj) pl ph) ⟨v, hv, ?_⟩
  refine ql s0 l s2 h3 F I H σ _ Rl fun I2 H2 i2 R2 => ?_
  refine qh s2 h _ h5 F I2 H2 σ _ R2 fun I3 H3 i3 R3 => ?_
  obtain ⟨es, v', hv', pv⟩ := pkS_at h7 R3
  subst es
  rw [hv] at hv'
  cases hv'
  exact hq F I3 H3 σ _ v Q R3 pv fun w I4 H4 i4 R4 => q w I4 H4 (i2.trans (i3.trans i4)) R4
end
end Nw
end

set_option Elab.async false
set_option linter.all false
set_option maxRecDepth 100000
set_option maxHeartbeats 4000000
noncomputable section
namespace Nw
open PySem L2 PySem.Spec

/-! ### built-ins -/
section
variable {X : Cx} {k : Nat} {C : Cf} {R : EvK}
theorem len_of {K : PySem.W.Frag} {I H : Hp} (e : Same I H) {v : V} {c d : D} (h : Pk K I H v c) (hd : ∀ kvs, c ≠ .dict kvs) (t : lenD c = some d) : ∃ m : Nat, LenV K v H m ∧ d = .int m := by
  unfold lenD at t
  split at t
  · rename_i xs
    cases t
    obtain ⟨a, vs, rfl, h1, h2⟩ := pk_list e h
    exact ⟨_, .inl ⟨vs, h1, rfl⟩, by rw [h2.len]⟩
  · rename_i xs
    cases t
    obtain ⟨a, vs, rfl, h1, h2⟩ := pk_tup e h
    exact ⟨_, .inr ⟨vs, h1, rfl⟩, by rw [h2.len]⟩
  · rename_i x
    split at t <;> cases t
    rename_i hz
    obtain rfl := pk_str h
    exact ⟨_, ⟨hz, rfl⟩, rfl⟩
  · exact absurd rfl (hd _)
  · cases t
theorem DtK.len {K : PySem.W.Frag} {I : Hp} : ∀ {vs : List (Key × V)} {ds : List (D × D)}, DtK K I vs ds → vs.length = ds.length
  | _, _, .nil => rfl
  | _, _, .cons _ t => congrArg Nat.succ (DtK.len t)
/-- one argument -/
theorem pa_1 {a : Expr} (h : noStar a = true) : PA X [a] (tCons (EvE X a) tNil) := pa_cons (pe_w a) pa_nil (star_cons h [] X.env)
theorem star1 {a : Expr} (h : noStar a = true) : starEach [a] X.env = (false, eval a X.env) :: starEach [] X.env := star_cons h [] X.env
theorem snd_len (cx : CtxOk k C X) (sn : Snd C X R) {a : Expr} {p q : Pos} (hb : isBlt C "len" = true) (hs : noStar a = true) : SndE X (.Call (.Name "len" p) [a] [] q) (bnd (pkE C R a) fun c => lift ((lenD c).map T.d)) := by
  intro s d s' hm F I H σ Q Rl qq
  obtain ⟨c, s1, h1, h2⟩ := bnd_ok hm
  obtain ⟨e, rfl⟩ := lift_ok h2
  obtain ⟨d', e', rfl⟩ := Option.map_eq_some_iff.mp e
  obtain ⟨g1, g2, g3, g4⟩ := isBlt_ok cx hb
  by_cases hd : ∃ kvs, c = .dict kvs
  · obtain ⟨kvs, rfl⟩ := hd
    have e2 : (if !isExc (.dict kvs) then some (PyData.int kvs.length) else none) = some d' := e'
    split at e2 <;> cases e2
    rename_i hx
    refine ofPE (pe_callB call_lenD g1 g3 PySem.boot_len (pa_1 hs) g4 g2 (star1 hs) rfl) (snd_pkE cx sn a s _ _ h1 F I H σ _ Rl fun v I1 H1 i1 R1 d1 => ?_)
    obtain ⟨b, vs, rfl, k1, k2⟩ := pk_dict R1.le d1 (by simpa using hx)
    refine ⟨b, vs, rfl, k1, ?_⟩
    rw [k2.len]
    exact qq _ I1 H1 i1 (R1.pushD (.int _))
  · refine ofPE (pe_callB call_len g1 g3 PySem.boot_len (pa_1 hs) g4 g2 (star1 hs) rfl) (snd_pkE cx sn a s _ _ h1 F I H σ _ Rl fun v I1 H1 i1 R1 d1 => ?_)
    obtain ⟨m, h3, rfl⟩ := len_of R1.le d1 (fun kvs z => hd ⟨kvs, z⟩) e'
    exact ⟨v, m, rfl, h3, qq _ I1 H1 i1 (R1.pushD (.int _))⟩
theorem bools_of {K : PySem.W.Frag} {I : Hp} : ∀ {vs : List V} {ds : List D} {bs : List Bool}, DtAll K I vs ds → boolsD ds = some bs → vs = bs.map V.bl
  | _, _, bs, .nil, e => by cases (show some [] = some bs from e); rfl
  | _, _, bs, .cons (d := d) (ds := ds) h t, e => by
    cases h with
    | bl b =>
      have e' : (boolsD ds).map (b :: ·) = some bs := e
      cases q : boolsD ds with
      | none => rw [q] at e'; cases e'
      | some bs' =>
        rw [q] at e'
        cases e'
        rw [bools_of t q]
        rfl
    | _ => cases e
/-- a rule for a built-in of data -/
def BltR (X : Cx) (x : Str) (ds : List D) (t : T) : Prop := ∃ r, ((∃ id, bootBuiltins x = some (.builtin id) ∧ CallR X (.builtin id) r) ∨ ∃ ty, bootBuiltins x = some (.type ty) ∧ CallR X (.type ty) r) ∧
  ∀ (F : Fx) (I H : Hp) (σ : St) (s : S) (vs : List V) (Q : VK), Rel X.K F I H σ s → DtAll X.K I vs ds → (∀ w I' H', Same I I' → Rel X.K (F.push w t) I' H' σ s → Q w H') → r vs H Q
theorem dt1 {K : PySem.W.Frag} {I : Hp} {vs : List V} {d : D} (h : DtAll K I vs [d]) : ∃ v, vs = [v] ∧ Dt K I v d := by
  cases h with | cons h1 h2 => cases h2; exact ⟨_, rfl, h1⟩
theorem dt2 {K : PySem.W.Frag} {I : Hp} {vs : List V} {d e : D} (h : DtAll K I vs [d, e]) : ∃ v u, vs = [v, u] ∧ Dt K I v d ∧ Dt K I u e := by
  cases h with | cons h1 h2 => cases h2 with | cons h3 h4 => cases h4; exact ⟨_, _, rfl, h1, h3⟩
theorem blt_all (cx : CtxOk k C X) {d : D} {t : T} (h : allD d = some t) : BltR X "all" [d] t := by
  unfold allD at h
  split at h
  · rename_i ds
    obtain ⟨bs, e1, rfl⟩ := Option.map_eq_some_iff.mp h
    refine ⟨_, .inl ⟨_, by decide +kernel, cr_all cx.calm⟩, fun F I H σ s vs Q Rl hd q => ?_⟩
    obtain ⟨v, rfl, d1⟩ := dt1 hd
    cases d1 with | lst h3 h4 =>
    have ev := bools_of h4 e1
    subst ev
    exact ⟨_, bs, rfl, Rl.le.seq h3, q _ I H (Same.refl I) (Rl.pushD (.bl _))⟩
  · cases h
theorem blt_int (cx : CtxOk k C X) {d : D} {t : T} (h : intOf d = some t) : BltR X "int" [d] t := by
  refine ⟨_, .inr ⟨_, by decide +kernel, call_int1⟩, fun F I H σ s vs Q Rl hd q => ?_⟩
  obtain ⟨v, rfl, d1⟩ := dt1 hd
  unfold intOf at h
  split at h
  · cases h
    cases d1
    exact .inl ⟨_, rfl, q _ I H (Same.refl I) (Rl.pushD (.int _))⟩
  · cases h
    cases d1
    exact .inr ⟨_, rfl, q _ I H (Same.refl I) (Rl.pushD (.int _))⟩
  · cases h
theorem blt_ok (cx : CtxOk k C X) {x : Str} {ds : List D} {t : T} (h : bltD x ds = some t) : BltR X x ds t := by
  unfold bltD at h
  by_cases e : x = "all"
  · subst e
    rw [if_pos rfl] at h
    match ds, h with
    | [d], h => exact blt_all cx h
    | [], h => cases h
    | _ :: _ :: _, h => cases h
  rw [if_neg e] at h
  clear e
  by_cases e : x = "abs"
  · subst e
    rw [if_pos rfl] at h
    split at h <;> cases h
    refine ⟨_, .inl ⟨_, by decide +kernel, call_abs⟩, fun F I H σ s vs Q Rl hd q => ?_⟩
    obtain ⟨v, rfl, d1⟩ := dt1 hd
    cases d1
    exact ⟨_, rfl, q _ I H (Same.refl I) (Rl.pushD (.int _))⟩
  rw [if_neg e] at h
  clear e
  by_cases e : x = "int"
  · subst e
    rw [if_pos rfl] at h
    match ds, h with
    | [d], h => exact blt_int cx h
    | [], h => cases h
    | _ :: _ :: _, h => cases h
  rw [if_neg e] at h
  clear e
  by_cases e : x = "min"
  · subst e
    rw [if_pos rfl] at h
    split at h <;> cases h
    refine ⟨_, .inl ⟨_, by decide +kernel, call_min2 cx.calm⟩, fun F I H σ s vs Q Rl hd q => ?_⟩
    obtain ⟨v, u, rfl, d1, d2⟩ := dt2 hd
    cases d1
    cases d2
    exact ⟨_, _, rfl, q _ I H (Same.refl I) (Rl.pushD (.int _))⟩
  rw [if_neg e] at h
  clear e
  by_cases e : x = "max"
  · subst e
    rw [if_pos rfl] at h
    split at h <;> cases h
    refine ⟨_, .inl ⟨_, by decide +kernel, call_max2 cx.calm⟩, fun F I H σ s vs Q Rl hd q => ?_⟩
    obtain ⟨v, u, rfl, d1, d2⟩ := dt2 hd
    cases d1
    cases d2
    exact ⟨_, _, rfl, q _ I H (Same.refl I) (Rl.pushD (.int _))⟩
  rw [if_neg e] at h
  clear e
  by_cases e : x = "tuple"
  · subst e
    rw [if_pos rfl] at h
    split at h <;> cases h
    · refine ⟨_, .inr ⟨_, by decide +kernel, call_tuple_of⟩, fun F I H σ s vs Q Rl hd q => ?_⟩
      obtain ⟨v, rfl, d1⟩ := dt1 hd
      cases d1 with | lst h3 h4 =>
      refine ⟨_, _, rfl, .inl ⟨Rl.le.seq h3, fun l hl => ?_⟩⟩
      obtain ⟨a1, a2, a3⟩ := lay_tup Rl hl h4
      exact q _ _ _ a1 (a2.pushD a3)
    · refine ⟨_, .inr ⟨_, by decide +kernel, call_tuple_of⟩, fun F I H σ s vs Q Rl hd q => ?_⟩
      obtain ⟨v, rfl, d1⟩ := dt1 hd
      cases d1 with | tup h3 h4 =>
      exact ⟨_, _, rfl, .inr ⟨sqT_mono Rl.le h3, q _ I H (Same.refl I) (Rl.pushD (.tup h3 h4))⟩⟩
  rw [if_neg e] at h
  cases h
theorem evd_nil {s s' : S} {ds : List D} (h : evd R [] s = .ok ds s') : ds = [] := by
  obtain ⟨rfl, rfl⟩ := ret_ok (show ret [] s = .ok ds s' from h)
  rfl
theorem blt_nil {x : Str} : bltD x [] = none := by
  unfold bltD
  repeat (split; rfl)
  rfl
theorem snd_bltD (cx : CtxOk k C X) (sn : ∀ e, SndE X e (R.e e)) {x : Str} {args : List Expr} {p q : Pos} (hb : isBlt C x = true) (hs : args.all noStar = true) : SndE X (.Call (.Name x p) args [] q) (bnd (evd R args) fun ds => lift (bltD x ds)) := by
  intro s t s' hm F I H σ Q Rl qq
  obtain ⟨ds, s1, h1, h2⟩ := bnd_ok hm
  obtain ⟨e, rfl⟩ := lift_ok h2
  obtain ⟨g1, g2, g3, g4⟩ := isBlt_ok cx hb
  obtain ⟨r, hr, hq⟩ := blt_ok (X := X) cx e
  cases args with
  | nil =>
    rw [evd_nil h1, blt_nil] at e
    cases e
  | cons a as =>
    have hs' := hs
    rw [List.all_cons, Bool.and_eq_true] at hs'
    rcases hr with ⟨id, b1, b2⟩ | ⟨ty, b1, b2⟩
    · exact ofPE (pe_callB b2 g1 g3 b1 (pa_w (a :: as)) g4 g2 (star_cons hs'.1 as X.env) (noStars_any hs'.2)) (snd_evd sn (a :: as) hs s ds _ h1 F I H σ _ Rl fun vs I1 H1 i1 R1 d1 => hq F I1 H1 σ _ vs Q R1 d1 fun w I2 H2 i2 R2 => qq w I2 H2 (i1.trans i2) R2)
    · exact ofPE (pe_callTy b2 g1 g3 b1 (pa_w (a :: as)) g4 g2 (star_cons hs'.1 as X.env) (noStars_any hs'.2)) (snd_evd sn (a :: as) hs s ds _ h1 F I H σ _ Rl fun vs I1 H1 i1 R1 d1 => hq F I1 H1 σ _ vs Q R1 d1 fun w I2 H2 i2 R2 => qq w I2 H2 (i1.trans i2) R2)

/-! ### isinstance -/
theorem ty_of {K : PySem.W.Frag} {I H : Hp} (e : Same I H) {v : V} {d : D} {t : String} (h : Pk K I H v d) (ht : tyD d = some t) : TyX K H v (.type t) := by
  cases h with
  | lst h1 h2 => cases ht; exact .base (.lst h1)
  | dct h1 h2 =>
    have ht' : (if isExc (.dict _) then none else some "dict") = some t := ht
    split at ht' <;> cases ht'
    exact .base (.dK h1)
  | dat h =>
    cases h with
    | non => cases ht; exact .base .non
    | bl b => cases ht; exact .base (.bl b)
    | int i => cases ht; exact .base (.int i)
    | str x => cases ht; exact .base (.str x)
    | lst h1 h2 =>
      cases ht
      rcases e.seq h1 with (q | ⟨o, q⟩) | ⟨o, its, m, q1, q2, _⟩
      · exact .base (.lst q)
      · exact .base (.frz q)
      · exact .kList q1 q2
    | tup h1 h2 =>
      cases ht
      rcases sqT_mono e h1 with (q | ⟨o, q⟩) | ⟨o, its, m, q1, q2, _⟩
      · exact .base (.tup q)
      · exact .fTuple q
      · exact .kTuple q1 q2
    | dct h1 h2 =>
      have ht' : (if isExc (.dict _) then none else some "dict") = some t := ht
      split at ht' <;> cases ht'
      exact .base (.dK (e _ _ h1))
    | exc => cases ht
theorem clsOf_boot {x : Str} {c : String} (h : clsOf x = some c) : bootBuiltins x = some (.type c) ∧ (["int", "bool", "str", "list", "tuple", "dict"] : List String).contains c = true := by
  unfold clsOf at h
  split at h
  · rename_i e; cases h; subst e; exact ⟨by decide +kernel, by decide +kernel⟩
  split at h
  · rename_i e; cases h; subst e; exact ⟨by decide +kernel, by decide +kernel⟩
  split at h
  · rename_i e; cases h; subst e; exact ⟨by decide +kernel, by decide +kernel⟩
  split at h
  · rename_i e; cases h; subst e; exact ⟨by decide +kernel, by decide +kernel⟩
  split at h
  · rename_i e; cases h; subst e; exact ⟨by decide +kernel, by decide +kernel⟩
  split at h
  · rename_i e; cases h; subst e; exact ⟨by decide +kernel, by decide +kernel⟩
  · cases h
theorem kit_all : (["NoneType", "bool", "int", "str", "list", "tuple", "dict"] : List String).all (fun t => (["int", "bool", "str", "list", "tuple", "dict"] : List String).all fun c => kitB t c == some (isiD t c)) = true := by decide +kernel
theorem tyD_mem {d : D} {t : String} (h : tyD d = some t) : (["NoneType", "bool", "int", "str", "list", "tuple", "dict"] : List String).contains t = true := by
  cases d <;> try (cases h; rfl)
  have ht' : (if isExc (.dict _) then none else some "dict") = some t := h
  split at ht' <;> cases ht'
  rfl
theorem kit_of' {K : PySem.W.Frag} {d : D} {t c : String} (ht : tyD d = some t) (h : (["int", "bool", "str", "list", "tuple", "dict"] : List String).contains c = true) : PySem.W.kitOne K (.type t) (.type c) = some (isiD t c) := by
  have h1 := List.all_eq_true.mp (List.all_eq_true.mp kit_all t (List.contains_iff_mem.mp (tyD_mem ht))) c (List.contains_iff_mem.mp h)
  exact kit_ty (eq_of_beq h1)
theorem isiOf_ok (cx : CtxOk k C X) {d : D} {t : String} (ht : tyD d = some t) {T : Expr} {b : Bool} (h : isiOf C t T = some b) : ∃ c, PE X T (tC (.ty c)) ∧ PySem.W.kitOne X.K (.type t) (.type c) = some b ∧ noStar T = true ∧ isiD t c = b := by
  unfold isiOf at h
  split at h
  · rename_i x p
    by_cases hb : isBlt C x = true
    · rw [if_pos hb] at h
      cases e : clsOf x with
      | none => rw [e] at h; cases h
      | some c =>
        rw [e] at h
        have h' : isiD t c = b := Option.some.inj h
        obtain ⟨g1, g2, g3, g4⟩ := isBlt_ok cx hb
        obtain ⟨b1, b2⟩ := clsOf_boot e
        exact ⟨c, pe_bltn g1 g3 b1 rfl g4 g2, by rw [kit_of' ht b2, h'], rfl, h'⟩
    · rw [if_neg hb] at h; cases h
  · cases h
theorem snd_isi1 (cx : CtxOk k C X) (sn : Snd C X R) {a Te : Expr} {p q : Pos} (hb : isBlt C "isinstance" = true) (hs : noStar a = true) {s s' : S} {c : D} (h1 : pkE C R a s = .ok c s') {t : String} (ht : tyD c = some t) {b : Bool} (h : isiOf C t Te = some b) :
    ∀ (F : Fx) (I H : Hp) (σ : St) (Q : VK), Rel X.K F I H σ s → (∀ v I' H', Same I I' → Rel X.K (F.push v (.d (.bool b))) I' H' σ s' → Q v H') → EvE X (.Call (.Name "isinstance" p) [a, Te] [] q) σ H Q := by
  intro F I H σ Q Rl qq
  obtain ⟨cn, pT, kT, sT, _⟩ := isiOf_ok cx ht h
  obtain ⟨g1, g2, g3, g4⟩ := isBlt_ok cx hb
  refine ofPE (pe_callB call_isi g1 g3 (by decide +kernel) (pa_cons (pe_w a) (pa_cons pT pa_nil (star_cons sT [] X.env)) (star_cons hs [Te] X.env)) g4 g2 (star_cons hs [Te] X.env) (noStars_any (by rw [List.all_cons, sT]; rfl)))
    (snd_pkE cx sn a s _ _ h1 F I H σ _ Rl fun v I1 H1 i1 R1 d1 => ?_)
  exact ⟨v, .ty cn, _, _, b, rfl, .ty cn, ty_of R1.le d1 ht, kT, qq _ I1 H1 i1 (R1.pushD (.bl b))⟩
theorem isiAny_ok (cx : CtxOk k C X) {d : D} {tn : String} (ht : tyD d = some tn) : ∀ {es : List Expr} {b : Bool}, isiAny C tn es = some b → es.all noStar = true ∧ ∃ (cs : List String) (t : TA), cs.length = es.length ∧ PA X es t ∧ (∀ σ H Q, Q (cs.map V.ty) H → t σ H Q) ∧ PySem.W.kitAny X.K (.type tn) (cs.map Value.type) = some b
  | [], b, h => by
    cases (show some false = some b from h)
    exact ⟨rfl, [], _, rfl, pa_nil, fun σ H Q q => q, rfl⟩
  | e :: es, b, h => by
    unfold isiAny at h
    cases h1 : isiOf C tn e with
    | none => rw [h1] at h; cases h
    | some b1 =>
      cases h2 : isiAny C tn es with
      | none => rw [h1, h2] at h; cases h
      | some b2 =>
        rw [h1, h2] at h
        have hb : (b1 || b2) = b := Option.some.inj h
        obtain ⟨c, pT, kT, sT, _⟩ := isiOf_ok cx ht h1
        obtain ⟨s2, cs, t, hl, pt, ht, hk⟩ := isiAny_ok cx ht h2
        refine ⟨by rw [List.all_cons, sT, s2]; rfl, c :: cs, _, by rw [List.length_cons, List.length_cons, hl], pa_cons pT pt (star_cons sT es X.env), fun σ H Q q => ht σ H _ q, ?_⟩
        refine kitAny_cons kT (fun e1 => ?_) (fun e1 => ?_)
        · rw [e1, Bool.false_or] at hb
          rw [← hb]; exact hk
        · rw [e1, Bool.true_or] at hb
          exact hb.symm
theorem paired_cls : ∀ cs : List String, Paired ClsV (cs.map V.ty) (cs.map Value.type)
  | [] => .nil
  | c :: cs => .cons (.ty c) (paired_cls cs)
theorem pk_upd {K : PySem.W.Frag} {I H : Hp} {v : V} {d : D} (h : Pk K I H v d) {p : Addr} {o : HO} (hp : H p = none) : Pk K I (upd H p o) v d := by
  cases h with
  | dat h => exact .dat h
  | lst h1 h2 => exact .lst (by rw [upd_ne (ne_of_none h1 hp)]; exact h1) h2
  | dct h1 h2 => exact .dct (by rw [upd_ne (ne_of_none h1 hp)]; exact h1) h2
/-- an exception, as data -/
theorem pk_exc {K : PySem.W.Frag} {I H : Hp} {v : V} {c : Int} {r : List (D × D)} (le : Same I H) (h : Pk K I H v (.dict ((.none, .int c) :: r))) :
    ∃ (a Ca : Addr) (dx : Option Addr) (fs : List (Str × V)), v = .ref a ∧ c = (Ca : Int) ∧ H a = some (exo a Ca dx) ∧ (dx = none → fs = []) ∧ (∀ x, dx = some x → H x = some (exd x fs)) ∧ DtF K I fs r := by
  have noK : ∀ {vs : List (Key × V)}, ¬ DtK K I vs ((.none, .int c) :: r) := fun {vs} h => by
    generalize e : ((PyData.none, PyData.int c) :: r) = z at h
    cases h with
    | nil => cases e
    | @cons kk _ _ _ _ _ _ =>
      have e1 := (Prod.mk.inj (List.cons.inj e).1).1
      cases kk <;> cases e1
  cases h with
  | dat h =>
    generalize e : (PyData.dict ((PyData.none, PyData.int c) :: r)) = z at h
    cases h with
    | @dct a kvs ds h1 h2 =>
      cases e
      exact absurd h2 noK
    | @exc a Ca dx fs ds h1 h2 h3 h4 =>
      cases e
      exact ⟨a, Ca, dx, fs, rfl, rfl, le _ _ h1, h2, fun x q => le _ _ (h3 x q), h4⟩
    | _ => cases e
  | dct h1 h2 => exact absurd h2 noK
theorem excOf_eq {d : D} {c : Int} (h : excOf d = some c) : ∃ r, d = .dict ((.none, .int c) :: r) := by
  unfold excOf at h
  split at h
  · cases h; exact ⟨_, rfl⟩
  · cases h
theorem snd_isiX (cx : CtxOk k C X) (sn : Snd C X R) {a Te : Expr} {p q : Pos} (hb : isBlt C "isinstance" = true) (hs : noStar a = true) {s s' : S} {c : Int} {r : List (D × D)} (h1 : pkE C R a s = .ok (.dict ((.none, .int c) :: r)) s') {b : Bool} (h : isiX C c Te = some b) :
    ∀ (F : Fx) (I H : Hp) (σ : St) (Q : VK), Rel X.K F I H σ s → (∀ v I' H', Same I I' → Rel X.K (F.push v (.d (.bool b))) I' H' σ s' → Q v H') → EvE X (.Call (.Name "isinstance" p) [a, Te] [] q) σ H Q := by
  intro F I H σ Q Rl qq
  unfold isiX at h
  split at h
  · rename_i y yp
    split at h
    · rename_i hg
      obtain ⟨Ca, bb, v, u, rfl, T, cl, rv, hy, hk⟩ := cx.ex.isi _ _ _ h
      obtain ⟨y1, y2⟩ := isGl_ok cx hg
      have pT : PE X (.Name y yp) (tC v) := by
        rcases hy with hy | ⟨z1, z2, z3⟩
        · exact pe_glob y1 hy rv y2
        · exact pe_bltn y1 z1 z2 rv z3 y2
      obtain ⟨g1, g2, g3, g4⟩ := isBlt_ok cx hb
      refine ofPE (pe_callB call_isX g1 g3 (by decide +kernel) (pa_cons (pe_w a) (pa_cons pT pa_nil (star_cons rfl [] X.env)) (star_cons hs _ X.env)) g4 g2 (star_cons hs _ X.env) rfl)
        (snd_pkE cx sn a s _ _ h1 F I H σ _ Rl fun v1 I1 H1 i1 R1 d1 => ?_)
      obtain ⟨ea, Cb, dx, fs, rfl, eC, k1, k2, k3, k4⟩ := pk_exc R1.le d1
      cases Int.ofNat.inj eC
      exact ⟨ea, Ca, dx, bb, fs, v, u, b, rfl, T, k1, k3, cl, hk, qq _ I1 H1 i1 (R1.pushD (.bl b))⟩
    · cases h
  · cases h
theorem snd_isi (cx : CtxOk k C X) (sn : Snd C X R) {a Te : Expr} {p q : Pos} (hb : isBlt C "isinstance" = true) (hs : noStar a = true) :
    SndE X (.Call (.Name "isinstance" p) [a, Te] [] q) (bnd (pkE C R a) fun d => lift ((isiE C d Te).map fun b => T.d (.bool b))) := by
  intro s d s' hm F I H σ Q Rl qq
  obtain ⟨c, s1, h1, h2⟩ := bnd_ok hm
  obtain ⟨e, rfl⟩ := lift_ok h2
  cases eb : isiE C c Te with
  | none => rw [eb] at e; cases e
  | some b =>
    rw [eb] at e
    cases e
    cases hx : excOf c with
    | some cc =>
      obtain ⟨r, rfl⟩ := excOf_eq hx
      exact snd_isiX cx sn hb hs h1 eb F I H σ Q Rl qq
    | none =>
    unfold isiE at eb
    rw [hx] at eb
    obtain ⟨tn, htn, eb⟩ := Option.bind_eq_some_iff.mp (show (tyD c).bind (fun t => match Te with | .Tuple es _ _ => if es.length ≤ 30 then isiAny C t es else none | e => isiOf C t e) = some b from eb)
    have one : isiOf C tn Te = some b → EvE X (.Call (.Name "isinstance" p) [a, Te] [] q) σ H Q := fun h => snd_isi1 cx sn hb hs h1 htn h F I H σ Q Rl qq
    split at eb
    · rename_i es kk tp
      split at eb
      · rename_i hl
        obtain ⟨s2, cs, t, hcl, pt, ht, hk⟩ := isiAny_ok cx htn eb
        obtain ⟨g1, g2, g3, g4⟩ := isBlt_ok cx hb
        refine ofPE (pe_callB call_isiT g1 g3 (by decide +kernel) (pa_cons (pe_w a) (pa_cons (pe_tup pt) pa_nil (star_cons rfl [] X.env)) (star_cons hs _ X.env)) g4 g2 (star_cons hs _ X.env) rfl)
          (snd_pkE cx sn a s _ _ h1 F I H σ _ Rl fun v I1 H1 i1 R1 d1 => ?_)
        refine ht σ H1 _ ⟨?_, fun tp htp => ?_⟩
        · rw [List.length_map, hcl]
          exact Nat.le_trans hl (by decide)
        · refine ⟨v, tp, cs.map V.ty, _, cs.map Value.type, b, rfl, upd_same, paired_cls cs, ty_of ((R1.layO htp).le) (pk_upd d1 htp) htn, hk, ?_⟩
          exact qq _ I1 _ i1 ((R1.layO htp).pushD (.bl b))
      · cases eb
    · exact one eb

/-- list(x) -/
theorem snd_listOf (cx : CtxOk k C X) (sn : Snd C X R) {a : Expr} {p q : Pos} (hb : isBlt C "list" = true) (hs : noStar a = true) : SndE X (.Call (.Name "list" p) [a] [] q) (bnd (pkE C R a) fun c => lift ((seqD c).map fun ds => .l (ds.map T.d))) := by
  intro s ds s' hm F I H σ Q Rl qq
  obtain ⟨c, s1, h1, h2⟩ := bnd_ok hm
  obtain ⟨e, rfl⟩ := lift_ok h2
  obtain ⟨g1, g2, g3, g4⟩ := isBlt_ok cx hb
  refine ofPE (pe_callTy call_list_of g1 g3 (by decide +kernel) (pa_1 hs) g4 g2 (star1 hs) rfl) (snd_pkE cx sn a s _ _ h1 F I H σ _ Rl fun v I1 H1 i1 R1 d1 => ?_)
  cases c <;> try (cases e; done)
  · cases e
    obtain ⟨b, vs, rfl, k1, k2⟩ := pk_list R1.le d1
    exact ⟨b, vs, rfl, .inl k1, fun l hl => qq _ I1 _ i1 (push_lst R1 hl k2)⟩
  · cases e
    obtain ⟨b, vs, rfl, k1, k2⟩ := pk_tup R1.le d1
    exact ⟨b, vs, rfl, .inr k1, fun l hl => qq _ I1 _ i1 (push_lst R1 hl k2)⟩
/-! ### all of them -/
theorem snd_blt (cx : CtxOk k C X) (sn : Snd C X R) {x : Str} {args : List Expr} {p q : Pos} (hb : isBlt C x = true) (hs : args.all noStar = true) : SndE X (.Call (.Name x p) args [] q) (bltE C R x args) := by
  have one : ∀ {a : Expr}, args = [a] → noStar a = true := fun e => by subst e; simpa using hs
  have two : ∀ {a b : Expr}, args = [a, b] → noStar a = true ∧ noStar b = true := fun e => by subst e; simpa using hs
  intro s d s' hm
  unfold bltE at hm
  by_cases e : x = "len"
  · subst e
    rw [if_pos rfl] at hm
    match args, hm, @one with
    | [a], hm, one => exact snd_len cx sn hb (one rfl) s d s' hm
    | [], hm, _ => cases hm
    | _ :: _ :: _, hm, _ => cases hm
  rw [if_neg e] at hm
  clear e
  by_cases e : x = "isinstance"
  · subst e
    rw [if_pos rfl] at hm
    match args, hm, @two with
    | [a, T], hm, two => exact snd_isi cx sn hb (two rfl).1 s d s' hm
    | [], hm, _ => cases hm
    | [_], hm, _ => cases hm
    | _ :: _ :: _ :: _, hm, _ => cases hm
  rw [if_neg e] at hm
  clear e
  by_cases e : x = "list"
  · subst e
    rw [if_pos rfl] at hm
    match args, hm, @one with
    | [a], hm, one => exact snd_listOf cx sn hb (one rfl) s d s' hm
    | [], hm, _ => cases hm
    | _ :: _ :: _, hm, _ => cases hm
  rw [if_neg e] at hm
  exact snd_bltD cx sn.e hb hs s d s' hm
end
end Nw
end

set_option Elab.async false
set_option linter.all false
set_option maxRecDepth 100000
set_option maxHeartbeats 4000000
noncomputable section
namespace Nw
open PySem L2 PySem.Spec

/-! ### trees without pointers -/
section
variable {K : PySem.W.Frag} {B B' : List V} {I I' H H' : Hp}
mutual
theorem TR.re : ∀ {v : V} {t : T} {fp : List Addr}, TR K B I H v t fp → noP t = true → TR K B' I H v t fp
  | _, _, _, .d h, _ => .d h
  | _, _, _, .l h1 h2, n => .l h1 (TRs.re h2 n)
  | _, _, _, .m h1 h2, n => .m h1 (TRk.re h2 n)
  | _, _, _, .p h, n => by cases n
theorem TRs.re : ∀ {v : List V} {t : List T} {fp : List Addr}, TRs K B I H v t fp → noPs t = true → TRs K B' I H v t fp
  | _, _, _, .nil, _ => .nil
  | _, _, _, .cons h r, n => by
    have n' := Bool.and_eq_true_iff.mp (show (noP _ && noPs _) = true from n)
    exact .cons (TR.re h n'.1) (TRs.re r n'.2)
theorem TRk.re : ∀ {v : List (Key × V)} {t : List (Key × T)} {fp : List Addr}, TRk K B I H v t fp → noPk t = true → TRk K B' I H v t fp
  | _, _, _, .nil, _ => .nil
  | _, _, _, .cons h r, n => by
    have n' := Bool.and_eq_true_iff.mp (show (noP _ && noPk _) = true from n)
    exact .cons (TR.re h n'.1) (TRk.re r n'.2)
end
mutual
theorem TR.ofN : ∀ {v : V} {t : T} {fp : List Addr}, TR K [] I H v t fp → TR K B' I H v t fp
  | _, _, _, .d h => .d h
  | _, _, _, .l h1 h2 => .l h1 (TRs.ofN h2)
  | _, _, _, .m h1 h2 => .m h1 (TRk.ofN h2)
  | _, _, _, .p h => by simp at h
theorem TRs.ofN : ∀ {v : List V} {t : List T} {fp : List Addr}, TRs K [] I H v t fp → TRs K B' I H v t fp
  | _, _, _, .nil => .nil
  | _, _, _, .cons h r => .cons (TR.ofN h) (TRs.ofN r)
theorem TRk.ofN : ∀ {v : List (Key × V)} {t : List (Key × T)} {fp : List Addr}, TRk K [] I H v t fp → TRk K B' I H v t fp
  | _, _, _, .nil => .nil
  | _, _, _, .cons h r => .cons (TR.ofN h) (TRk.ofN r)
end
end
theorem noPs_d : ∀ ds : List D, noPs (ds.map T.d) = true
  | [] => rfl
  | d :: ds => by show (noP (.d d) && noPs (ds.map T.d)) = true; rw [noPs_d ds]; rfl

/-! ### trees lent -/
def CelAt (F : Fx) (σ : St) : Cell → V → Prop
  | .tmp, _ => False
  | .own i, v => σ[i]? = some (some v)
  | .bor n, v => F.bs[n]? = some v
inductive CelsAt (F : Fx) (σ : St) : List Cell → List V → Prop where
  | nil : CelsAt F σ [] []
  | cons {c : Cell} {v : V} {cs : List Cell} {vs : List V} : CelAt F σ c v → CelsAt F σ cs vs → CelsAt F σ (c :: cs) (v :: vs)
theorem CelsAt.like {F F' : Fx} {σ : St} (e : F'.bs = F.bs) : ∀ {cs : List Cell} {vs : List V}, CelsAt F σ cs vs → CelsAt F' σ cs vs
  | _, _, .nil => .nil
  | _, _, .cons (c := c) h r => .cons (by cases c <;> first | exact h | (show F'.bs[_]? = _; rw [e]; exact h)) (CelsAt.like e r)
theorem CelsAt.len {F : Fx} {σ : St} : ∀ {cs : List Cell} {vs : List V}, CelsAt F σ cs vs → cs.length = vs.length
  | _, _, .nil => rfl
  | _, _, .cons _ r => congrArg Nat.succ (CelsAt.len r)
section
variable {K : PySem.W.Frag} {F : Fx} {I I' H H' : Hp} {σ : St} {s s' : S}
theorem pushes_app {ps qs : List (V × T)} : (F.pushes ps).pushes qs = F.pushes (ps ++ qs) := by
  unfold Fx.pushes
  simp
theorem cellOf_at (Rl : Rel K F I H σ s) {i : Nat} {c : Cell} (h : cellOf i s = some c) : ∃ v, σ[i]? = some (some v) ∧ CelAt F σ c v := by
  unfold cellOf at h
  split at h
  · rename_i ds e
    cases h
    obtain ⟨v, h1⟩ := Rl.val i ds e
    exact ⟨v, h1, h1⟩
  · rename_i m e
    cases h
    obtain ⟨a, h1, h2⟩ := Rl.bor i m e
    exact ⟨a, h1, h2⟩
  · cases h
theorem take_ok : ∀ {cs : List Cell} {vs : List V} {F : Fx} {s s' : S} {ts : List T}, Rel K F I H σ s → CelsAt F σ cs vs → takeCs cs s = some (ts, s') → vs.length = ts.length ∧ Rel K (F.pushes (vs.zip ts)) I H σ s'
  | _, _, F, s, s', ts, Rl, .nil, h => by
    cases (show some ([], s) = some (ts, s') from h)
    exact ⟨rfl, by rw [List.zip_nil_left, pushes_nil]; exact Rl⟩
  | _, _, F, s, s', ts, Rl, .cons (c := c) (v := v) (cs := cs) (vs := vs) hc hr, h => by
    unfold takeCs at h
    cases e1 : takeC c s with
    | none => rw [e1] at h; cases h
    | some r1 =>
      obtain ⟨t, s1⟩ := r1
      rw [e1] at h
      cases e2 : takeCs cs s1 with
      | none => simp only [e2] at h; cases h
      | some r2 =>
        obtain ⟨ts', s2⟩ := r2
        simp only [e2] at h
        cases h
        have R1 : Rel K (F.push v t) I H σ s1 := by
          cases c with
          | tmp => cases e1
          | own i =>
            have e1' : (match s.g[i]? with | some (Sl.v t) => some (t, { s with g := s.g.set i .un }) | _ => none) = some (t, s1) := e1
            split at e1'
            · rename_i t' ei
              cases e1'
              obtain ⟨v', k1, k2⟩ := Rl.outS ei
              have : v' = v := by
                have hc' : σ[i]? = some (some v) := hc
                rw [hc'] at k1
                cases k1
                rfl
              subst this
              exact k2
            · cases e1'
          | bor n =>
            have e1' : (match s.b[n]? with | some (some t) => some (t, { s with b := s.b.set n none }) | _ => none) = some (t, s1) := e1
            split at e1'
            · rename_i t' ei
              cases e1'
              obtain ⟨v', k1, k2⟩ := Rl.outC ei
              have : v' = v := by
                have hc' : F.bs[n]? = some v := hc
                rw [hc'] at k1
                cases k1
                rfl
              subst this
              exact k2
            · cases e1'
        obtain ⟨k1, k2⟩ := take_ok R1 (CelsAt.like (F := F) (F' := F.push v t) rfl hr) e2
        rw [pushes_push] at k2
        exact ⟨by simp [k1], k2⟩
theorem put_ok : ∀ {cs : List Cell} {vs : List V} {ts : List T} {ps : List (V × T)}, CelsAt F σ cs vs → vs.length = ts.length → Rel K (F.pushes (ps ++ vs.zip ts)) I H σ s → Rel K (F.pushes ps) I H σ (putCs cs ts s)
  | _, _, [], ps, .nil, _, Rl => by
    rw [List.zip_nil_left, List.append_nil] at Rl
    exact Rl
  | _, _, t :: ts, ps, .cons (c := c) (v := v) (cs := cs) (vs := vs) hc hr, hl, Rl => by
    have e : ps ++ (v :: vs).zip (t :: ts) = (ps ++ [(v, t)]) ++ vs.zip ts := by simp
    rw [e] at Rl
    have ih := put_ok (ps := ps ++ [(v, t)]) hr (by simpa using hl) Rl
    rw [← pushes_app, push_eq] at ih
    show Rel K (F.pushes ps) I H σ (putC c t (putCs cs ts s))
    cases c with
    | tmp => exact hc.elim
    | own i =>
      have := ih.setT i
      rw [setSame hc] at this
      exact this
    | bor n => exact ih.intoC hc
theorem pop_ok : ∀ {ps qs : List (V × T)}, Rel K (F.pushes (ps ++ qs)) I H σ s → Rel K (F.pushes ps) I H σ s
  | ps, [], Rl => by rw [List.append_nil] at Rl; exact Rl
  | ps, (v, t) :: qs, Rl => by
    have e : ps ++ (v, t) :: qs = (ps ++ [(v, t)]) ++ qs := by simp
    rw [e] at Rl
    have ih := pop_ok (ps := ps ++ [(v, t)]) Rl
    rw [← pushes_app, push_eq] at ih
    exact ih.pop
end

/-! ### calls -/
section
variable {X : Cx} {k : Nat} {C : Cf} {R : EvK}
theorem zip_app {α β : Type} : ∀ {xs xs' : List α} {ys ys' : List β}, xs.length = ys.length → xs.zip ys ++ xs'.zip ys' = (xs ++ xs').zip (ys ++ ys')
  | [], _, [], _, _ => rfl
  | x :: xs, xs', y :: ys, ys', h => by
    show (x, y) :: (xs.zip ys ++ xs'.zip ys') = (x, y) :: (xs ++ xs').zip (ys ++ ys')
    rw [zip_app (by simpa using h)]
theorem snd_args (cx : CtxOk k C X) (sn : ∀ e, SndE X e (R.e e)) : ∀ (sg : List Bool) (es : List Expr) (s : S) (r : List D × List T × List Cell) (s' : S), evArgs C R sg es s = .ok r s' → es.all noStar = true ∧ sg.length = es.length ∧ ∀ (F : Fx) (I H : Hp) (σ : St) (Q : List V → Hp → Prop), Rel X.K F I H σ s →
    (∀ vs tv cv I' H', Same I I' → tv.length = r.2.1.length → Rel X.K (F.pushes (tv.zip r.2.1)) I' H' σ s' → CelsAt F σ r.2.2 cv → ArgsR X.K I' sg vs r.1 (tv ++ cv) → Q vs H') → EvA X es σ H Q
  | [], [], s, r, s', hm => by
    obtain ⟨rfl, rfl⟩ := ret_ok (show ret ([], [], []) s = .ok r s' from hm)
    exact ⟨rfl, rfl, fun F I H σ Q Rl q => ofPA pa_nil (q [] [] [] I H (Same.refl I) rfl (by rw [List.zip_nil_left, pushes_nil]; exact Rl) .nil .nil)⟩
  | false :: sg, e :: es, s, r, s', hm => by
    have hm' : (if noStar e then bnd (dE R e) fun d => bnd (evArgs C R sg es) fun r => ret (d :: r.1, r.2.1, r.2.2) else fail) s = .ok r s' := hm
    by_cases hs : noStar e = true
    · rw [if_pos hs] at hm'
      obtain ⟨d, s1, h1, h2⟩ := bnd_ok hm'
      obtain ⟨r', s2, h3, h4⟩ := bnd_ok h2
      obtain ⟨rfl, rfl⟩ := ret_ok h4
      obtain ⟨hs2, hl, ih⟩ := snd_args cx sn sg es s1 r' _ h3
      refine ⟨by rw [List.all_cons, hs, hs2]; rfl, by rw [List.length_cons, List.length_cons, hl], fun F I H σ Q Rl q => ?_⟩
      refine ofPA (pa_cons (pe_w e) (pa_w es) (star_cons hs es X.env)) ?_
      refine snd_dE sn e s d s1 h1 F I H σ _ Rl fun v I1 H1 i1 R1 d1 => ?_
      refine ih F I1 H1 σ _ R1 fun vs tv cv I2 H2 i2 l2 R2 c2 d2 => ?_
      exact q (v :: vs) tv cv I2 H2 (i1.trans i2) l2 R2 c2 (.dat (d1.mono i2) d2)
    · rw [if_neg hs] at hm'
      cases hm'
  | true :: sg, e :: es, s, r, s', hm => by
    have gen : (if noStar e then bnd (R.e e) fun t => bnd (evArgs C R sg es) fun r => if r.2.1.isEmpty then ret (r.1, [t], r.2.2) else fail else fail) s = .ok r s' → (e :: es).all noStar = true ∧ (true :: sg).length = (e :: es).length ∧ ∀ (F : Fx) (I H : Hp) (σ : St) (Q : List V → Hp → Prop), Rel X.K F I H σ s →
        (∀ vs tv cv I' H', Same I I' → tv.length = r.2.1.length → Rel X.K (F.pushes (tv.zip r.2.1)) I' H' σ s' → CelsAt F σ r.2.2 cv → ArgsR X.K I' (true :: sg) vs r.1 (tv ++ cv) → Q vs H') → EvA X (e :: es) σ H Q := fun hm' => by
      by_cases hs : noStar e = true
      · rw [if_pos hs] at hm'
        obtain ⟨t, s1, h1, h2⟩ := bnd_ok hm'
        obtain ⟨r', s2, h3, h4⟩ := bnd_ok h2
        by_cases he : r'.2.1.isEmpty = true
        · rw [if_pos he] at h4
          obtain ⟨rfl, rfl⟩ := ret_ok h4
          obtain ⟨hs2, hl, ih⟩ := snd_args cx sn sg es s1 r' _ h3
          refine ⟨by rw [List.all_cons, hs, hs2]; rfl, by rw [List.length_cons, List.length_cons, hl], fun F I H σ Q Rl q => ?_⟩
          refine ofPA (pa_cons (pe_w e) (pa_w es) (star_cons hs es X.env)) ?_
          refine sn e s t s1 h1 F I H σ _ Rl fun v I1 H1 i1 R1 => ?_
          refine ih (F.push v t) I1 H1 σ _ R1 fun vs tv cv I2 H2 i2 l2 R2 c2 d2 => ?_
          have e1 : r'.2.1 = [] := List.isEmpty_iff.mp he
          rw [e1] at l2 R2
          have e2 : tv = [] := List.eq_nil_of_length_eq_zero l2
          subst e2
          rw [List.zip_nil_left, pushes_nil] at R2
          exact q (v :: vs) [v] cv I2 H2 (i1.trans i2) rfl R2 (CelsAt.like (F := F.push v t) (F' := F) rfl c2) (.bor d2)
        · rw [if_neg he] at h4
          cases h4
      · rw [if_neg hs] at hm'
        cases hm'
    cases e with
    | Name x p =>
      unfold evArgs at hm
      cases hi : slotOf C x with
      | none => simp only [hi] at hm; cases hm
      | some i =>
        simp only [hi] at hm
        obtain ⟨c, s1, h1, h2⟩ := bnd_ok hm
        obtain ⟨ec, rfl⟩ := lift_ok h1
        obtain ⟨r', s2, h3, h4⟩ := bnd_ok h2
        by_cases he : r'.2.1.isEmpty = true
        · rw [if_pos he] at h4
          obtain ⟨rfl, rfl⟩ := ret_ok h4
          obtain ⟨hs2, hl, ih⟩ := snd_args cx sn sg es s1 r' _ h3
          refine ⟨by rw [List.all_cons, hs2]; rfl, by rw [List.length_cons, List.length_cons, hl], fun F I H σ Q Rl q => ?_⟩
          obtain ⟨v, ha, hc⟩ := cellOf_at Rl ec
          refine ofPA (pa_cons (pe_slot cx hi) (pa_w es) (star_cons rfl es X.env)) ⟨_, ha, ?_⟩
          refine ih F I H σ _ Rl fun vs tv cv I2 H2 i2 l2 R2 c2 d2 => ?_
          have e1 : r'.2.1 = [] := List.isEmpty_iff.mp he
          rw [e1] at l2 R2
          have e2 : tv = [] := List.eq_nil_of_length_eq_zero l2
          subst e2
          exact q (v :: vs) [] (v :: cv) I2 H2 i2 rfl R2 (.cons hc c2) (.bor d2)
        · rw [if_neg he] at h4
          cases h4
    | _ => exact gen hm
  | [], _ :: _, s, r, s', hm => by cases hm
  | false :: _, [], s, r, s', hm => by cases hm
  | true :: _, [], s, r, s', hm => by cases hm
/-- what comes behind the call of a def that keeps its promise -/
theorem call_ok {fn : Fn} {r : List D × List T × List Cell} {t : T} {s s' : S} (hm : callFn fn r s = .ok t s') {F : Fx} {I H : Hp} {σ : St} {vs tv cv : List V} {Q : VK} {E : XK} (hl : tv.length = r.2.1.length) (Rl : Rel X.K (F.pushes (tv.zip r.2.1)) I H σ s) (hc : CelsAt F σ r.2.2 cv) (ha : ArgsR X.K I fn.sig vs r.1 (tv ++ cv))
    (q : ∀ v I' H', Same I I' → Rel X.K (F.push v t) I' H' σ s' → Q v H') : spF X.K fn vs H Q E := by
  obtain ⟨ds, tmps, cs⟩ := r
  unfold callFn at hm
  simp only at hm hl Rl hc ha
  cases et : takeCs cs s with
  | none => rw [et] at hm; cases hm
  | some rr =>
    obtain ⟨ts, s1⟩ := rr
    rw [et] at hm
    simp only at hm
    by_cases hn : noPs (tmps ++ ts) = true
    · rw [if_pos hn] at hm
      cases er : fn.run ds (tmps ++ ts) with
      | none => rw [er] at hm; cases hm
      | some rv =>
        rw [er] at hm
        cases rv with
        | exc x b => cases hm
        | val t' us =>
          simp only at hm
          by_cases hz : us.length = tmps.length + ts.length
          · rw [if_pos hz] at hm
            cases hm
            obtain ⟨l2, R2⟩ := take_ok Rl (CelsAt.like (F := F) (F' := F.pushes (tv.zip tmps)) rfl hc) et
            rw [pushes_app, zip_app hl] at R2
            obtain ⟨ow, R3⟩ := R2
            obtain ⟨ff, b1, b2, b3⟩ := R3.block
            have hlen : (tv ++ cv).length = (tmps ++ ts).length := by simp [hl, l2]
            rw [zip_fst hlen, zip_snd hlen] at b1
            refine ⟨I, ds, tv ++ cv, tmps ++ ts, ff, t, us, ha, R3.le, b1.re hn, b2, fun a ha => ?_, er, fun v I' H' fg i1 i2 kp nw tr nd hf => ?_⟩
            · obtain ⟨j, _, e⟩ := b3 a ha
              exact (R3.own a _ e).1
            · have hl2 : (v :: (tv ++ cv)).length = (t :: us).length := by simp [hz, hl, l2]
              have R4 : Rel X.K (F.pushes ((v :: (tv ++ cv)).zip (t :: us))) I' H' σ s1 := by
                refine RelO.reblock (ff := ff) (fg := fg) R3 b3 i1 i2 (fun a o e => ?_) kp (by rw [zip_fst hl2, zip_snd hl2]; exact tr.ofN) nd hf
                cases hI : I a with
                | some o' =>
                  have := i1 _ _ hI
                  rw [this] at e
                  cases e
                  exact .inl rfl
                | none =>
                  cases hH : H a with
                  | none => exact .inr (.inl rfl)
                  | some o' =>
                    by_cases hff : a ∈ ff
                    · exact .inr (.inr hff)
                    · rw [nw a o' hH hI hff] at e
                      cases e
              have e1 : (v :: (tv ++ cv)).zip (t :: us) = ((v, t) :: tv.zip (us.take tmps.length)) ++ cv.zip (us.drop tmps.length) := by
                show (v, t) :: (tv ++ cv).zip us = _
                conv => lhs; rw [← List.take_append_drop tmps.length us]
                rw [← zip_app (by rw [List.length_take]; omega)]
                rfl
              rw [e1] at R4
              have R5 := put_ok hc (by rw [List.length_drop]; omega) R4
              have R6 := pop_ok (ps := [(v, t)]) (qs := tv.zip (us.take tmps.length)) R5
              exact q v I' H' i1 R6
          · rw [if_neg hz] at hm
            cases hm
    · rw [if_neg hn] at hm
      cases hm
/-- f(e, ..): the promise is kept behind the arguments -/
theorem snd_callE (cx : CtxOk k C X) (sn : ∀ e, SndE X e (R.e e)) {x : Str} {args : List Expr} {p q : Pos} {fn : Fn} (hg : isGl C x = true) (hf : C.fns x args.length [] = some fn) : SndE X (.Call (.Name x p) args [] q) (bnd (evArgs C R fn.sig args) (callFn fn)) := by
  intro s t s' hm F I H σ Q Rl qq
  obtain ⟨r, s1, h1, h2⟩ := bnd_ok hm
  obtain ⟨g1, g2⟩ := isGl_ok cx hg
  obtain ⟨hs, hl, go⟩ := snd_args cx sn fn.sig args s r s1 h1
  have ft := cx.fns x args.length [] fn hf
  cases ft with
  | @pos fn f fd ps sp ds dvs f1 f2 f3 f4 f5 f6 f7 =>
    cases args with
    | nil =>
      have e0 : fn.sig = [] := List.eq_nil_of_length_eq_zero hl
      rw [e0] at h1
      obtain ⟨rfl, rfl⟩ := ret_ok (show ret ([], [], []) s = .ok r s1 from h1)
      refine ofPE (pe_call0 f3 cx.room g1 f1 f2 f4 f5 pass0 g2) ?_
      exact f7 [] H Q E0 (call_ok (tv := []) (cv := []) h2 rfl (by rw [List.zip_nil_left, pushes_nil]; exact Rl) .nil (by rw [e0]; exact .nil) fun v I2 H2 i2 R2 => qq v I2 H2 i2 R2)
    | cons e es =>
      rw [List.all_cons, Bool.and_eq_true] at hs
      refine ofPE (pe_call f3 cx.room g1 f1 f2 f4 f5 pass0 (pa_w (e :: es)) g2 (star_cons hs.1 es X.env) (noStars_any hs.2)) ?_
      exact go F I H σ _ Rl fun vs tv cv I' H' i1 l1 R1 c1 ha => f7 vs H' Q E0 (call_ok h2 l1 R1 c1 ha fun v I2 H2 i2 R2 => qq v I2 H2 (i1.trans i2) R2)
  | @kw fn f fd ps sp ks g gV f1 f2 f3 f4 f5 f6 f7 f8 => exact absurd rfl f6
/-- f(k = e, ..) -/
def EvK' (X : Cx) (kws : List Keyword) : TA := fun σ H Q => ∀ (pos : Pos) (pins : List (Addr × Obj)) (s : Shared), Inv X pins σ H s → wpAny (model X.prog X.w) X.A (evalAll ((backToKw pos (keywordEach kws X.env)).map (·.2))) (AP X pins σ Q) X.xe s
theorem pk_w (kws : List Keyword) : PK X kws (EvK' X kws) := ⟨fun pos pins s _ _ _ I h => h pos pins s I⟩
theorem ofPK {kws : List Keyword} {t : TA} {σ : St} {H : Hp} {Q : List V → Hp → Prop} (h : PK X kws t) (w : t σ H Q) : EvK' X kws σ H Q := fun pos pins s I => h.run pos pins s σ H Q I w
theorem snd_kws (cx : CtxOk k C X) (sn : ∀ e, SndE X e (R.e e)) : ∀ (kws : List Keyword) (s : S) (r : List D × List T × List Cell) (s' : S), evArgs C R (kws.map fun _ => false) (kws.map (·.value)) s = .ok r s' → r.2 = ([], []) ∧ r.1.length = kws.length ∧ ∀ (F : Fx) (I H : Hp) (σ : St) (Q : List V → Hp → Prop), Rel X.K F I H σ s →
    (∀ vs I' H', Same I I' → Rel X.K F I' H' σ s' → ArgsR X.K I' (kws.map fun _ => false) vs r.1 [] → vs.length = kws.length → Q vs H') → EvK' X kws σ H Q
  | [], s, r, s', hm => by
    obtain ⟨rfl, rfl⟩ := ret_ok (show ret ([], [], []) s = .ok r s' from hm)
    exact ⟨rfl, rfl, fun F I H σ Q Rl q => ofPK pk_nil (q [] I H (Same.refl I) Rl .nil rfl)⟩
  | ⟨nm, e, kp⟩ :: kws, s, r, s', hm => by
    have hm' : (if noStar e then bnd (dE R e) fun d => bnd (evArgs C R (kws.map fun _ => false) (kws.map (·.value))) fun r => ret (d :: r.1, r.2.1, r.2.2) else fail) s = .ok r s' := hm
    by_cases hs : noStar e = true
    · rw [if_pos hs] at hm'
      obtain ⟨d, s1, h1, h2⟩ := bnd_ok hm'
      obtain ⟨r', s2, h3, h4⟩ := bnd_ok h2
      obtain ⟨rfl, rfl⟩ := ret_ok h4
      obtain ⟨hc, hl, ih⟩ := snd_kws cx sn kws s1 r' _ h3
      refine ⟨hc, by rw [List.length_cons, List.length_cons, hl], fun F I H σ Q Rl q => ?_⟩
      refine ofPK (pk_cons (pe_w e) (pk_w kws)) ?_
      refine snd_dE sn e s d s1 h1 F I H σ _ Rl fun v I1 H1 i1 R1 d1 => ?_
      refine ih F I1 H1 σ _ R1 fun vs I2 H2 i2 R2 d2 hv => ?_
      exact q (v :: vs) I2 H2 (i1.trans i2) R2 (.dat (d1.mono i2) d2) (by rw [List.length_cons, List.length_cons, hv])
    · rw [if_neg hs] at hm'
      cases hm'
theorem kw_names : ∀ (kws : List Keyword) (env : Env) (pos : Pos), (backToKw pos (keywordEach kws env)).filterMap (·.1) = kws.filterMap (·.arg)
  | [], _, _ => rfl
  | ⟨nm, e, kp⟩ :: kws, env, pos => by
    have ih := kw_names kws env pos
    cases nm with
    | none => exact ih
    | some x => exact congrArg (x :: ·) ih
theorem kw_all : ∀ (kws : List Keyword) (env : Env) (pos : Pos), kws.all (·.arg.isSome) = true → (backToKw pos (keywordEach kws env)).all (·.1.isSome) = true
  | [], _, _, _ => rfl
  | ⟨nm, e, kp⟩ :: kws, env, pos, h => by
    rw [List.all_cons, Bool.and_eq_true] at h
    have ih := kw_all kws env pos h.2
    show (nm.isSome && (backToKw pos (keywordEach kws env)).all (·.1.isSome)) = true
    rw [ih, h.1]
    rfl
theorem kw_any : ∀ (kws : List Keyword) (env : Env) (pos : Pos), kws.all (·.arg.isSome) = true → (backToKw pos (keywordEach kws env)).any (·.1.isNone) = false
  | [], _, _, _ => rfl
  | ⟨nm, e, kp⟩ :: kws, env, pos, h => by
    rw [List.all_cons, Bool.and_eq_true] at h
    have ih := kw_any kws env pos h.2
    show (nm.isNone || (backToKw pos (keywordEach kws env)).any (·.1.isNone)) = false
    rw [ih, Bool.or_false]
    cases nm with
    | none => cases h.1
    | some x => rfl
theorem filterMap_len : ∀ {kws : List Keyword}, kws.all (·.arg.isSome) = true → (kws.filterMap (·.arg)).length = kws.length
  | [], _ => rfl
  | ⟨nm, e, kp⟩ :: kws, h => by
    rw [List.all_cons, Bool.and_eq_true] at h
    cases nm with
    | none => cases h.1
    | some x => exact congrArg Nat.succ (filterMap_len h.2)
theorem snd_callK (cx : CtxOk k C X) (sn : ∀ e, SndE X e (R.e e)) {x : Str} {kws : List Keyword} {p q : Pos} {fn : Fn} (hg : isGl C x = true) (hne : kws ≠ []) (hf : C.fns x 0 (kws.filterMap (·.arg)) = some fn) (hall : kws.all (·.arg.isSome) = true) :
    SndE X (.Call (.Name x p) [] kws q) (bnd (evArgs C R fn.sig (kws.map (·.value))) (callFn fn)) := by
  intro s d s' hm F I H σ Q Rl qq
  obtain ⟨r, s1, h1, h2⟩ := bnd_ok hm
  obtain ⟨g1, g2⟩ := isGl_ok cx hg
  have hk0 : kws.filterMap (·.arg) ≠ [] := fun z => by
    have := filterMap_len hall
    rw [z] at this
    exact hne (List.eq_nil_of_length_eq_zero this.symm)
  have ft := cx.fns x 0 _ fn hf
  generalize hks : kws.filterMap (·.arg) = ks at ft
  cases ft with
  | @pos fn f fd ps sp ds dvs f1 f2 f3 f4 f5 f6 f7 => exact absurd hks hk0
  | @kw fn f fd ps sp ks g gV f1 f2 f3 f4 f5 f6 f7 f8 =>
    have es : fn.sig = kws.map fun _ => false := by
      rw [f7, ← hks]
      have hl := filterMap_len hall
      rw [List.map_const', List.map_const', hl]
    rw [es] at h1
    obtain ⟨hc, hl, go⟩ := snd_kws cx sn kws s r s1 h1
    refine fun pins sh inv => wpAny_Call_Name_kw (ld_glob inv g1 f1 ?_ g2)
    refine PySem.W.callWith_KW0 (h₀ := X.base) inv.ok.mod.kin f2 (kw_all kws X.env q hall) ?_ (by
      show ((false : Bool) || _) = false
      rw [Bool.false_or]
      exact kw_any kws X.env q hall)
    refine thn (go F I H σ (fun zs H2 => zs.length = kws.length ∧ spF X.K fn zs H2 Q E0) Rl (fun vs I1 H1 i1 R1 ha hv => ⟨hv, ?_⟩) q pins sh inv) fun ws s2 ⟨zs, H2, I2, rz, hzl, q2⟩ => ⟨I2.kIn, ?_⟩
    · rw [← es] at ha
      exact call_ok (tv := []) (cv := []) h2 (by rw [hc]; rfl) (by rw [hc, List.zip_nil_left, pushes_nil]; exact R1) (by rw [hc]; exact .nil) ha fun v I2 H2 i2 R2 => qq v I2 H2 (i1.trans i2) R2
    · rw [kw_names, hks]
      exact run_fnN (us := []) (vs := []) f3 cx.room f4 pass0 I2 .nil rz rfl (by rw [hzl, ← filterMap_len hall, hks]) (f8 zs H2 Q E0 q2)
end
end Nw
end

set_option Elab.async false
set_option linter.all false
set_option maxRecDepth 100000
set_option maxHeartbeats 4000000
noncomputable section
namespace Nw
open PySem L2 PySem.Spec

/-! ### own exceptions -/
section
variable {K : PySem.W.Frag} {F : Fx} {I H : Hp} {σ : St} {s : S}
theorem lay_ex1 (R : Rel K F I H σ s) {a dx Ca : Addr} {f : Str} {v : V} {d : D} (ha : H a = none) (hx : H dx = none) (ne : dx ≠ a) (h : Dt K I v d) :
    Same I (upd (upd I dx (exd dx [(f, v)])) a (exo a Ca (some dx))) ∧ Rel K F (upd (upd I dx (exd dx [(f, v)])) a (exo a Ca (some dx))) (upd (upd H dx (exd dx [(f, v)])) a (exo a Ca (some dx))) σ s ∧
      Dt K (upd (upd I dx (exd dx [(f, v)])) a (exo a Ca (some dx))) (.ref a) (.dict [(.none, .int Ca), (.str f, d)]) := by
  have s1 : Same I (upd I dx (exd dx [(f, v)])) := same_new (R.le.free hx) _
  have R1 := R.lay (o := exd dx [(f, v)]) hx
  have ha' : upd H dx (exd dx [(f, v)]) a = none := by rw [upd_ne (Ne.symm ne)]; exact ha
  have s2 : Same (upd I dx (exd dx [(f, v)])) (upd (upd I dx (exd dx [(f, v)])) a (exo a Ca (some dx))) := same_new (R1.le.free ha') _
  refine ⟨s1.trans s2, R1.lay ha', .exc (fs := [(f, v)]) upd_same (fun z => by cases z) (fun x q => ?_) (.cons (h.mono (s1.trans s2)) .nil)⟩
  cases q
  rw [upd_ne ne, upd_same]
theorem lay_ex0 (R : Rel K F I H σ s) {a Ca : Addr} (ha : H a = none) : Same I (upd I a (exo a Ca none)) ∧ Rel K F (upd I a (exo a Ca none)) (upd H a (exo a Ca none)) σ s ∧ Dt K (upd I a (exo a Ca none)) (.ref a) (.dict [(.none, .int Ca)]) :=
  ⟨same_new (R.le.free ha) _, R.lay ha, .exc (fs := []) upd_same (fun _ => rfl) (fun x q => by cases q) .nil⟩
end
section
variable {X : Cx} {k : Nat} {C : Cf} {R : EvK}
theorem snd_exE (cx : CtxOk k C X) (sn : ∀ e, SndE X e (R.e e)) {x : Str} {args : List Expr} {p q : Pos} {c : Int} {fo : Option Str} (hg : isGl C x = true) (hm : C.ex.made x = some (c, fo)) : SndE X (.Call (.Name x p) args [] q) (exE R c fo args) := by
  obtain ⟨h2, Ca, rfl, M⟩ := cx.ex.made _ _ _ hm
  obtain ⟨g1, g2⟩ := isGl_ok cx hg
  have hr := cx.room.mono h2
  unfold exE
  split
  · rename_i f a
    intro s t s' hmm F I H σ Q Rl qq
    by_cases hs : noStar a = true
    · rw [if_pos hs] at hmm
      obtain ⟨d, s1, h1, h3⟩ := bnd_ok hmm
      obtain ⟨rfl, rfl⟩ := ret_ok h3
      refine ofPE (pe_ex1 M hr g1 (pe_w a) g2 (star_cons hs [] X.env)) (snd_dE sn a s d _ h1 F I H σ _ Rl fun v I1 H1 i1 R1 d1 => fun ea dx na nd ne => ?_)
      obtain ⟨k1, k2, k3⟩ := lay_ex1 (Ca := Ca) (f := f) R1 na nd ne d1
      exact qq _ _ _ (i1.trans k1) (k2.pushD k3)
    · rw [if_neg hs] at hmm
      cases hmm
  · intro s t s' hmm F I H σ Q Rl qq
    obtain ⟨rfl, rfl⟩ := ret_ok hmm
    refine ofPE (pe_ex0 M hr g1 g2) fun ea na => ?_
    obtain ⟨k1, k2, k3⟩ := lay_ex0 (Ca := Ca) Rl na
    exact qq _ _ _ k1 (k2.pushD k3)
  · intro s t s' hmm
    cases hmm
theorem snd_exK (cx : CtxOk k C X) (sn : ∀ e, SndE X e (R.e e)) {x : Str} {kw : Keyword} {kws : List Keyword} {p q : Pos} {c : Int} {fo : Option Str} (hg : isGl C x = true) (hm : C.ex.made x = some (c, fo)) : SndE X (.Call (.Name x p) [] (kw :: kws) q) (exK R c fo kw kws) := by
  obtain ⟨h2, Ca, rfl, M⟩ := cx.ex.made _ _ _ hm
  obtain ⟨g1, g2⟩ := isGl_ok cx hg
  have hr := cx.room.mono h2
  unfold exK
  split
  · rename_i f
    intro s t s' hmm F I H σ Q Rl qq
    by_cases hs : (kw.arg == some f) = true
    · rw [if_pos hs] at hmm
      obtain ⟨ka, kv, kp⟩ := kw
      have e : ka = some f := eq_of_beq hs
      subst e
      obtain ⟨d, s1, h1, h3⟩ := bnd_ok hmm
      obtain ⟨rfl, rfl⟩ := ret_ok h3
      refine ofPE (pe_exK M hr g1 (pe_w kv) g2) (snd_dE sn kv s d _ h1 F I H σ _ Rl fun v I1 H1 i1 R1 d1 => fun ea dx na nd ne => ?_)
      obtain ⟨k1, k2, k3⟩ := lay_ex1 (Ca := Ca) (f := f) R1 na nd ne d1
      exact qq _ _ _ (i1.trans k1) (k2.pushD k3)
    · rw [if_neg hs] at hmm
      cases hmm
  · intro s t s' hmm
    cases hmm
theorem dtF_look {K : PySem.W.Frag} {I : Hp} {f : Str} {d : D} : ∀ {fs : List (Str × V)} {r : List (D × D)}, DtF K I fs r → valD r (.str f) = some d → ∃ v, fs.lookup f = some v ∧ Dt K I v d
  | _, _, .nil, e => by cases e
  | _, _, .cons (k := g) (v := v) (vs := vs) (d := d') (ds := ds) h t, e => by
    have e' : (if (some (Sum.inr g) : Option Key) = some (Sum.inr f) then some d' else valD ds (.str f)) = some d := e
    rw [lookup_put]
    by_cases c : g = f
    · rw [if_pos (by rw [c])] at e'
      cases e'
      exact ⟨v, by rw [if_pos c.symm], h⟩
    · rw [if_neg (fun z => c (Sum.inr.inj (Option.some.inj z)))] at e'
      obtain ⟨w, k1, k2⟩ := dtF_look t e'
      exact ⟨w, by rw [if_neg (Ne.symm c)]; exact k1, k2⟩
theorem snd_att (cx : CtxOk k C X) (sn : ∀ e, SndE X e (R.e e)) {a : Expr} {f : Str} {pos : Pos} (hb : ∀ (env : Env) (w : Sem Value), attributeBase a f env w = w) : SndE X (.Attribute a f pos) (bnd (dE R a) fun d => lift (attD C.ex f d)) := by
  intro s t s' hm F I H σ Q Rl qq
  obtain ⟨d, s1, h1, h2⟩ := bnd_ok hm
  obtain ⟨e, rfl⟩ := lift_ok h2
  unfold attD at e
  split at e
  · rename_i c r
    split at e
    · rename_i hf
      cases hv : valD r (.str f) with
      | none => rw [hv] at e; cases e
      | some y =>
        rw [hv] at e
        cases e
        obtain ⟨Ca, b, rfl, T, hno⟩ := cx.ex.fld _ _ hf
        refine ofPE (pe_at (pe_w a) (hb _ _)) (snd_dE sn a s _ _ h1 F I H σ _ Rl fun v I1 H1 i1 R1 d1 => ?_)
        obtain ⟨ea, Cb, dx, fs, rfl, eC, k1, k2, k3, k4⟩ := pk_exc R1.le (.dat d1)
        cases Int.ofNat.inj eC
        obtain ⟨w, l1, l2⟩ := dtF_look k4 hv
        cases dx with
        | none =>
          rw [k2 rfl] at l1
          cases l1
        | some x => exact ⟨ea, Ca, x, fs, w, b, rfl, T, hno, k1, k3 x rfl, l1, qq _ I1 H1 i1 (R1.pushD l2)⟩
    · cases e
  · cases e
/-- [..] * n -/
theorem dtAll_rep {K : PySem.W.Frag} {I : Hp} {vs : List V} {ds : List D} (h : DtAll K I vs ds) : ∀ n : Nat, DtAll K I (List.replicate n vs).flatten (List.replicate n ds).flatten
  | 0 => .nil
  | n + 1 => by
    rw [List.replicate_succ, List.replicate_succ, List.flatten_cons, List.flatten_cons]
    exact h.append (dtAll_rep h n)
theorem snd_rep (cx : CtxOk k C X) (sn : ∀ e, SndE X e (R.e e)) {a b : Expr} {pos : Pos} : SndE X (.BinOp a .Mult b pos) (bnd (R.e a) fun t => bnd (dE R b) fun y => lift (repT t y)) := by
  intro s t s' hm F I H σ Q Rl q
  obtain ⟨ta, s1, h1, h2⟩ := bnd_ok hm
  obtain ⟨y, s2, h3, h4⟩ := bnd_ok h2
  obtain ⟨e, rfl⟩ := lift_ok h4
  unfold repT at e
  split at e
  · rename_i ts j
    cases hz : fzs ts with
    | none => rw [hz] at e; cases e
    | some ds =>
      rw [hz] at e
      simp only at e
      split at e
      · rename_i hc
        cases e
        rw [Bool.and_eq_true, inR_iff, decide_eq_true_iff] at hc
        refine ofPE (pe_op op_rep (pe_w a) (pe_w b)) (sn a s _ _ h1 F I H σ _ Rl fun v I1 H1 i1 R1 => snd_dE sn b s1 _ _ h3 _ I1 H1 σ _ R1 fun u I2 H2 i2 R2 d2 => ?_)
        cases d2
        obtain ⟨I3, fp, k1, k2, _, hh, hat⟩ := R2.freeze2 (d := .list ds) (by unfold fz; rw [hz])
        cases hh with
        | @l ad vs _ fq hH hT =>
          have hD := hT.dt k1 hz fun a ha => hat a (List.mem_cons_of_mem _ ha)
          refine ⟨ad, j, vs, rfl, rfl, hH, by omega, by omega, by rw [hD.len]; exact hc.2, fun p hp => ?_⟩
          exact q _ I3 _ (i1.trans (i2.trans k1)) (push_lst k2 hp (dtAll_rep hD _))
      · cases e
  · cases e
end
end Nw
end

set_option Elab.async false
set_option linter.all false
set_option maxRecDepth 100000
set_option maxHeartbeats 4000000
noncomputable section
namespace Nw
open PySem L2 PySem.Spec

/-! ### what is walked -/
section
variable {X : Cx} {k : Nat} {C : Cf} {R : EvK}
theorem pa_2 {a b : Expr} (h : noStar a = true) (h' : noStar b = true) : PA X [a, b] (tCons (EvE X a) (tCons (EvE X b) tNil)) := pa_cons (pe_w a) (pa_1 h') (star_cons h [b] X.env)
theorem walk_list {K : PySem.W.Frag} {I : Hp} {a : Addr} {vs : List V} {ds : List D} (h1 : SqL K I a vs) (h2 : DtAll K I vs ds) : Walk K (Itl K a) I ds := by
  intro i I2 H2 i1 i2
  have h3 : SqL K H2 a vs := (i1.trans i2).seq h1
  refine ⟨fun d e => ?_, fun e => ⟨vs, h3, by rw [h2.len]; exact e⟩⟩
  obtain ⟨v, k1, k2⟩ := h2.get e
  refine ⟨⟨vs, v, h3, k1⟩, fun x H3 hy => .inl ⟨hy.1, ?_⟩⟩
  have e2 := hy.2 vs h3
  rw [k1] at e2
  cases e2
  exact k2.mono i1
theorem walk_tup {K : PySem.W.Frag} {I : Hp} {a : Addr} {vs : List V} {ds : List D} (h1 : SqT K I a vs) (h2 : DtAll K I vs ds) : Walk K (Itt K a) I ds := by
  intro i I2 H2 i1 i2
  have h3 : SqT K H2 a vs := sqT_mono (i1.trans i2) h1
  refine ⟨fun d e => ?_, fun e => ⟨vs, h3, by rw [h2.len]; exact e⟩⟩
  obtain ⟨v, k1, k2⟩ := h2.get e
  refine ⟨⟨vs, v, h3, k1⟩, fun x H3 hy => .inl ⟨hy.1, ?_⟩⟩
  have e2 := hy.2 vs h3
  rw [k1] at e2
  cases e2
  exact k2.mono i1
theorem walk_range {K : PySem.W.Frag} {I : Hp} (lo : Int) (m : Nat) : Walk K (Itr lo m) I ((List.range m).map fun i => PyData.int (lo + (i : Nat))) := by
  intro i I2 H2 i1 i2
  refine ⟨fun d e => ?_, fun e => (by simpa using e : m ≤ i)⟩
  rw [List.getElem?_map] at e
  cases q : (List.range m)[i]? with
  | none => rw [q] at e; cases e
  | some j =>
    rw [q] at e
    cases e
    obtain ⟨h1, h2⟩ := List.getElem?_eq_some_iff.mp q
    rw [List.getElem_range] at h2
    subst h2
    rw [List.length_range] at h1
    refine ⟨h1, fun x H3 hy => .inl ⟨hy.1, ?_⟩⟩
    rw [hy.2]
    exact .int _
theorem walk_enum {K : PySem.W.Frag} {I : Hp} {a : Addr} {vs : List V} {ds : List D} (h1 : SqL K I a vs) (h2 : DtAll K I vs ds) : Walk K (Ite K a) I ((List.range ds.length).zipWith (fun i x => PyData.tuple [.int (i : Nat), x]) ds) := by
  intro i I2 H2 i1 i2
  have h3 : SqL K H2 a vs := (i1.trans i2).seq h1
  refine ⟨fun d e => ?_, fun e => ⟨vs, h3, by rw [h2.len]; simpa using e⟩⟩
  rw [List.getElem?_zipWith] at e
  cases q1 : (List.range ds.length)[i]? with
  | none => rw [q1] at e; cases e
  | some j =>
    cases q2 : ds[i]? with
    | none => rw [q1, q2] at e; cases e
    | some x =>
      rw [q1, q2] at e
      cases e
      obtain ⟨g1, g2⟩ := List.getElem?_eq_some_iff.mp q1
      rw [List.getElem_range] at g2
      subst g2
      obtain ⟨v, k1, k2⟩ := h2.get q2
      refine ⟨⟨vs, v, h3, k1⟩, fun y H3 hy => ?_⟩
      obtain ⟨T, z, rfl, hT, rfl, hz⟩ := hy
      have e2 := hz vs h3
      rw [k1] at e2
      cases e2
      have hTI : I2 T = none := i2.free hT
      have sI : Same I2 (upd I2 T (.tup [.int (i : Nat), v])) := same_new hTI _
      exact .inr ⟨T, _, hT, rfl, .tup (SqT.of upd_same) (.cons (.int _) (.cons (k2.mono (i1.trans sI)) .nil))⟩
theorem zip_at {xs ys : List D} {i : Nat} {d : D} (e : (List.zipWith (fun x y => PyData.tuple [x, y]) xs ys)[i]? = some d) : ∃ x y, xs[i]? = some x ∧ ys[i]? = some y ∧ d = .tuple [x, y] := by
  rw [List.getElem?_zipWith] at e
  cases q1 : xs[i]? with
  | none => rw [q1] at e; cases e
  | some x =>
    cases q2 : ys[i]? with
    | none => rw [q1, q2] at e; cases e
    | some y =>
      rw [q1, q2] at e
      cases e
      exact ⟨x, y, rfl, rfl, rfl⟩
theorem walk_zipL {K : PySem.W.Frag} {I : Hp} {a b : Addr} {vs us : List V} {ds es : List D} (h1 : SqL K I a vs) (h2 : DtAll K I vs ds) (g1 : SqL K I b us) (g2 : DtAll K I us es) : Walk K (Itz K a b) I (List.zipWith (fun x y => PyData.tuple [x, y]) ds es) := by
  intro i I2 H2 i1 i2
  have h3 : SqL K H2 a vs := (i1.trans i2).seq h1
  have g3 : SqL K H2 b us := (i1.trans i2).seq g1
  refine ⟨fun d e => ?_, fun e => ⟨vs, us, h3, g3, by rw [h2.len, g2.len]; rw [List.length_zipWith] at e; omega⟩⟩
  obtain ⟨x, y, q1, q2, rfl⟩ := zip_at e
  obtain ⟨v, k1, k2⟩ := h2.get q1
  obtain ⟨u, l1, l2⟩ := g2.get q2
  refine ⟨⟨vs, us, v, u, h3, g3, k1, l1⟩, fun z H3 hy => ?_⟩
  obtain ⟨T, z1, z2, rfl, hT, rfl, hz1, hz2⟩ := hy
  have e1 := hz1 vs h3
  have e2 := hz2 us g3
  rw [k1] at e1
  rw [l1] at e2
  cases e1
  cases e2
  have sI : Same I2 (upd I2 T (.tup [v, u])) := same_new (i2.free hT) _
  exact .inr ⟨T, _, hT, rfl, .tup (SqT.of upd_same) (.cons (k2.mono (i1.trans sI)) (.cons (l2.mono (i1.trans sI)) .nil))⟩
theorem walk_zipT {K : PySem.W.Frag} {I : Hp} {a b : Addr} {vs us : List V} {ds es : List D} (h1 : SqT K I a vs) (h2 : DtAll K I vs ds) (g1 : SqT K I b us) (g2 : DtAll K I us es) : Walk K (RZ.ItzT K a b) I (List.zipWith (fun x y => PyData.tuple [x, y]) ds es) := by
  intro i I2 H2 i1 i2
  have h3 : SqT K H2 a vs := sqT_mono (i1.trans i2) h1
  have g3 : SqT K H2 b us := sqT_mono (i1.trans i2) g1
  refine ⟨fun d e => ?_, fun e => ⟨vs, us, h3, g3, by rw [h2.len, g2.len]; rw [List.length_zipWith] at e; omega⟩⟩
  obtain ⟨x, y, q1, q2, rfl⟩ := zip_at e
  obtain ⟨v, k1, k2⟩ := h2.get q1
  obtain ⟨u, l1, l2⟩ := g2.get q2
  refine ⟨⟨vs, us, v, u, h3, g3, k1, l1⟩, fun z H3 hy => ?_⟩
  obtain ⟨T, z1, z2, rfl, hT, rfl, hz1, hz2⟩ := hy
  have e1 := hz1 vs h3
  have e2 := hz2 us g3
  rw [k1] at e1
  rw [l1] at e2
  cases e1
  cases e2
  have sI : Same I2 (upd I2 T (.tup [v, u])) := same_new (i2.free hT) _
  exact .inr ⟨T, _, hT, rfl, .tup (SqT.of upd_same) (.cons (k2.mono (i1.trans sI)) (.cons (l2.mono (i1.trans sI)) .nil))⟩
/-- a list or a tuple as it is -/
theorem snd_seqI (sn : ∀ e, SndE X e (R.e e)) (tg iter : Expr) : SndI X tg iter (bnd (dE R iter) fun d => lift (seqD d)) := by
  intro s ds s' hm F I H σ Q Rl q
  obtain ⟨d, s1, h1, h2⟩ := bnd_ok hm
  obtain ⟨e, rfl⟩ := lift_ok h2
  cases d <;> try (cases e; done)
  · cases e
    refine ofPI (pi_list (pe_w iter)) (snd_dE sn iter s _ _ h1 F I H σ _ Rl fun v I1 H1 i1 R1 d1 => ?_)
    cases d1 with | @lst a vs _ k1 k2 =>
    exact ⟨a, rfl, ⟨vs, R1.le.seq k1⟩, q _ I1 H1 i1 R1 (walk_list k1 k2)⟩
  · cases e
    refine ofPI (pi_tup (pe_w iter)) (snd_dE sn iter s _ _ h1 F I H σ _ Rl fun v I1 H1 i1 R1 d1 => ?_)
    cases d1 with | @tup a vs _ k1 k2 =>
    exact ⟨a, rfl, ⟨vs, sqT_mono R1.le k1⟩, q _ I1 H1 i1 R1 (walk_tup k1 k2)⟩
theorem snd_stepI {RC : Cf → EvK} (cx : CtxOk k C X) (sn : Snd C X (RC C)) (tg iter : Expr) : SndI X tg iter (stepI RC C tg iter) := by
  cases iter with
  | Call f args kws q =>
    cases f with
    | Name x p =>
      cases kws with
      | cons kw kws => exact snd_seqI sn.e tg _
      | nil =>
        intro s ds s' hm F I H σ Q Rl qq
        have gen : bnd (dE (RC C) (.Call (.Name x p) args [] q)) (fun d => lift (seqD d)) s = .ok ds s' → EvI X tg (.Call (.Name x p) args [] q) σ H Q := fun hm => snd_seqI sn.e tg _ s ds s' hm F I H σ Q Rl qq
        unfold stepI at hm
        simp only at hm
        by_cases hb : (isBlt C x && args.all noStar) = true
        · rw [if_pos hb] at hm
          rw [Bool.and_eq_true] at hb
          obtain ⟨hb, hs⟩ := hb
          obtain ⟨g1, g2, g3, g4⟩ := isBlt_ok cx hb
          by_cases ex : x = "range"
          · subst ex
            rw [if_pos rfl] at hm
            match args, hm, hs with
            | [], hm, hs => cases hm
            | [a], hm, hs =>
              have ha : noStar a = true := by simpa using hs
              obtain ⟨d, s1, h1, h2⟩ := bnd_ok hm
              obtain ⟨e, rfl⟩ := lift_ok h2
              cases d <;> try (cases e; done)
              rename_i j
              have e' : (if inR j = true then some ((List.range j.toNat).map fun i => PyData.int (0 + (i : Nat))) else none) = some ds := e
              by_cases hj : inR j = true
              · rw [if_pos hj] at e'
                cases e'
                replace hj := inR_iff.mp hj
                refine ofPI (pi_range1 g1 g3 (pa_1 ha) (star_cons ha [] X.env)) (snd_dE sn.e a s _ _ h1 F I H σ _ Rl fun v I1 H1 i1 R1 d1 => ?_)
                cases d1
                exact ⟨j, rfl, hj.1, hj.2, qq _ I1 H1 i1 R1 (walk_range 0 j.toNat)⟩
              · rw [if_neg hj] at e'
                cases e'
            | [a, b], hm, hs =>
              have ha : noStar a = true ∧ noStar b = true := by simpa using hs
              obtain ⟨d, s1, h1, h2⟩ := bnd_ok hm
              obtain ⟨d', s2, h3, h4⟩ := bnd_ok h2
              obtain ⟨e, rfl⟩ := lift_ok h4
              cases d <;> try (cases e; done)
              cases d' <;> try (cases e; done)
              rename_i i j
              have e' : (if (inR i && inR j) = true then some ((List.range (j - i).toNat).map fun k => PyData.int (i + (k : Nat))) else none) = some ds := e
              by_cases hj : (inR i && inR j) = true
              · rw [if_pos hj] at e'
                cases e'
                replace hj : (-(2 ^ 62) ≤ i ∧ i < 2 ^ 62) ∧ (-(2 ^ 62) ≤ j ∧ j < 2 ^ 62) := by
                  rw [Bool.and_eq_true] at hj
                  exact ⟨inR_iff.mp hj.1, inR_iff.mp hj.2⟩
                refine ofPI (pi_range2 g1 g3 (pa_2 ha.1 ha.2) (by rw [star_cons ha.1, star_cons ha.2]; rfl) (star_cons ha.2 [] X.env)) (snd_dE sn.e a s _ _ h1 F I H σ _ Rl fun v I1 H1 i1 R1 d1 => ?_)
                refine snd_dE sn.e b s1 _ _ h3 F I1 H1 σ _ R1 fun u I2 H2 i2 R2 d2 => ?_
                cases d1
                cases d2
                exact ⟨i, j, rfl, ⟨hj.1.1, hj.1.2, hj.2.1, hj.2.2⟩, qq _ I2 H2 (i1.trans i2) R2 (walk_range i (j - i).toNat)⟩
              · rw [if_neg hj] at e'
                cases e'
            | _ :: _ :: _ :: _, hm, hs => cases hm
          rw [if_neg ex] at hm
          clear ex
          by_cases ex : x = "enumerate"
          · subst ex
            rw [if_pos rfl] at hm
            cases tg with
            | Tuple elts kk tpos =>
              match args, hm, hs with
              | [], hm, hs => cases hm
              | [a], hm, hs =>
                have ha : noStar a = true := by simpa using hs
                obtain ⟨d, s1, h1, h2⟩ := bnd_ok hm
                obtain ⟨e, rfl⟩ := lift_ok h2
                cases d <;> try (cases e; done)
                cases e
                refine ofPI (pi_enum g1 g3 (pa_1 ha) (star_cons ha [] X.env)) (snd_dE sn.e a s _ _ h1 F I H σ _ Rl fun v I1 H1 i1 R1 d1 => ?_)
                cases d1 with | @lst b vs _ k1 k2 =>
                exact ⟨b, vs, rfl, R1.le.seq k1, qq _ I1 H1 i1 R1 (walk_enum k1 k2)⟩
              | _ :: _ :: _, hm, hs => cases hm
            | _ => cases hm
          rw [if_neg ex] at hm
          clear ex
          by_cases ex : x = "zip"
          · subst ex
            rw [if_pos rfl] at hm
            cases tg with
            | Tuple elts kk tpos =>
              match args, hm, hs with
              | [], hm, hs => cases hm
              | [_], hm, hs => cases hm
              | [a, b], hm, hs =>
                have ha : noStar a = true ∧ noStar b = true := by simpa using hs
                obtain ⟨d, s1, h1, h2⟩ := bnd_ok hm
                obtain ⟨d', s2, h3, h4⟩ := bnd_ok h2
                obtain ⟨e, rfl⟩ := lift_ok h4
                refine ofPI (RZ.pi_zipA g1 g3 (pa_2 ha.1 ha.2) (star_cons ha.1 [b] X.env) (noStars_any (by rw [List.all_cons, ha.2]; rfl))) (snd_dE sn.e a s _ _ h1 F I H σ _ Rl fun v I1 H1 i1 R1 d1 => ?_)
                refine snd_dE sn.e b s1 _ _ h3 F I1 H1 σ _ R1 fun u I2 H2 i2 R2 d2 => ?_
                cases d <;> try (cases e; done)
                · cases d' <;> try (cases e; done)
                  cases e
                  cases d1 with | @lst b1 vs _ k1 k2 =>
                  cases d2 with | @lst b2 us _ l1 l2 =>
                  exact ⟨b1, b2, vs, us, rfl, .inl ⟨(i2.trans R2.le).seq k1, R2.le.seq l1, qq _ I2 H2 (i1.trans i2) R2 (walk_zipL (i2.seq k1) (k2.mono i2) l1 l2)⟩⟩
                · cases d' <;> try (cases e; done)
                  cases e
                  cases d1 with | @tup b1 vs _ k1 k2 =>
                  cases d2 with | @tup b2 us _ l1 l2 =>
                  exact ⟨b1, b2, vs, us, rfl, .inr ⟨sqT_mono (i2.trans R2.le) k1, sqT_mono R2.le l1, qq _ I2 H2 (i1.trans i2) R2 (walk_zipT (sqT_mono i2 k1) (k2.mono i2) l1 l2)⟩⟩
              | _ :: _ :: _ :: _, hm, hs => cases hm
            | _ => cases hm
          rw [if_neg ex] at hm
          exact gen hm
        · rw [if_neg hb] at hm
          exact gen hm
    | _ => exact snd_seqI sn.e tg _
  | _ => exact snd_seqI sn.e tg _
end
end Nw
end

set_option Elab.async false
set_option linter.all false
set_option maxRecDepth 100000
set_option maxHeartbeats 4000000
noncomputable section
namespace Nw
open PySem L2 PySem.Spec PyProof.Rows

/-! ### a, b, *rest = xs -/
section
variable {prog : Program} {w : World} {A : Around} {E : Value → Shared → Prop} {s : Shared}
theorem star_list {l : Addr} {items : Array Value} {i : Nat} {Q : List Value → Shared → Prop} (hl : s.heap.IsList l items) (hh : A.handled = none) (hi : i ≤ items.size) (hz : items.size ≤ sizeLine)
    (h : ∀ (h' : Heap) (tk : Nat), (∀ b o, s.heap.get? b = some o → h'.get? b = some o) → Q (items.toList.take i ++ [.ref h'.objs.size]) { s with heap := h'.push { cls := .type "list", data := .seq (items.toList.drop i).toArray }, toks := tk }) :
    wpAny (model prog w) A (unpackItems (.ref l) (i + 1) (some i)) Q E s := by
  have hll : l < s.heap.objs.size := let ⟨_, ho, _⟩ := hl; Heap.lt_size ho
  have hlt : l ≠ s.heap.objs.size := Nat.ne_of_lt hll
  have h0 : ∀ b o, s.heap.get? b = some o → b ≠ s.heap.objs.size := fun b o e => Nat.ne_of_lt (Heap.lt_size e)
  unfold unpackItems notIterableAtAll
  refine wpAny_bind (wpAny_bind (wpAny_specialOf hl.typeIs slot_list_iter.lookup (wpAny_pure ?_)))
  rw [if_neg (by simp)]
  refine wpAny_bind (wpAny_holding (wpAny_pyIter_list hl ?_))
  refine wpAny_bind (wpAny_holding (PySem.W.kun_draw hlt i 0 _ _ ⟨_, Heap.get?_push_size _ rfl, rfl, rfl⟩ (hl.push _) (by omega) fun h1 hit hs => ?_))
  have hl1 : h1.IsList l items := (hl.push _).extBut hs.extBut hlt
  rw [Nat.zero_add] at hit
  obtain ⟨oi, hoi, _⟩ := id hit
  obtain ⟨ol, hol, _⟩ := id hl1
  have ht : (items.toList.take i).length = i := by rw [List.length_take, Array.length_toList]; omega
  rw [List.drop_zero, if_neg (by rw [ht]; omega)]
  refine wpAny_bind (wpAny_holding (PySem.W.kun_collect (s := { s with heap := h1 }) (.inr (.inr (.inl rfl))) (Walks.list (A := A.in1) hh s.heap.objs.size l hlt items) (fun _ _ st => st.1.typeIs) hi ⟨hit, hl1⟩ (Heap.lt_size hoi) (Heap.lt_size hol) (fun h2 tk hk => ?_) hz))
  have e0 : i + 1 - 1 - i = 0 := by omega
  simp only [e0, Nat.sub_zero, Nat.not_lt_zero, if_false, List.take_length, List.drop_length, List.append_nil]
  refine wpAny_bind (wpAny_newList (wpAny_pure ?_) (by rw [List.length_drop, Array.length_toList]; omega))
  exact h h2 tk fun b o e => hk b o (h0 b o e) (hs.extBut b o (h0 b o e) (Heap.get?_push_of_some _ e))
theorem star_tuple {l : Addr} {items : Array Value} {i : Nat} {Q : List Value → Shared → Prop} (hl : IsTup s.heap l items) (hh : A.handled = none) (hi : i ≤ items.size) (hz : items.size ≤ sizeLine)
    (h : ∀ (h' : Heap) (tk : Nat), (∀ b o, s.heap.get? b = some o → h'.get? b = some o) → Q (items.toList.take i ++ [.ref h'.objs.size]) { s with heap := h'.push { cls := .type "list", data := .seq (items.toList.drop i).toArray }, toks := tk }) :
    wpAny (model prog w) A (unpackItems (.ref l) (i + 1) (some i)) Q E s := by
  have hll : l < s.heap.objs.size := let ⟨_, ho, _⟩ := hl; Heap.lt_size ho
  have hlt : l ≠ s.heap.objs.size := Nat.ne_of_lt hll
  have h0 : ∀ b o, s.heap.get? b = some o → b ≠ s.heap.objs.size := fun b o e => Nat.ne_of_lt (Heap.lt_size e)
  unfold unpackItems notIterableAtAll
  refine wpAny_bind (wpAny_bind (wpAny_specialOf hl.typeIs slot_tuple_iter.lookup (wpAny_pure ?_)))
  rw [if_neg (by simp)]
  refine wpAny_bind (wpAny_holding (iter_tuple hl ?_))
  refine wpAny_bind (wpAny_holding (draw_tuple hlt i 0 _ _ ⟨_, Heap.get?_push_size _ rfl, rfl, rfl⟩ (hl.push _) (by omega) fun h1 hit hs => ?_))
  have hl1 : IsTup h1 l items := (hl.push _).extBut hs.extBut hlt
  rw [Nat.zero_add] at hit
  obtain ⟨oi, hoi, _⟩ := id hit
  obtain ⟨ol, hol, _⟩ := id hl1
  have ht : (items.toList.take i).length = i := by rw [List.length_take, Array.length_toList]; omega
  rw [List.drop_zero, if_neg (by rw [ht]; omega)]
  refine wpAny_bind (wpAny_holding (PySem.W.kun_collect (s := { s with heap := h1 }) (.inr (.inr (.inr rfl))) (Walks.tuple (A := A.in1) hh s.heap.objs.size l hlt items) (fun _ _ st => st.1.typeIs) hi ⟨hit, hl1⟩ (Heap.lt_size hoi) (Heap.lt_size hol) (fun h2 tk hk => ?_) hz))
  have e0 : i + 1 - 1 - i = 0 := by omega
  simp only [e0, Nat.sub_zero, Nat.not_lt_zero, if_false, List.take_length, List.drop_length, List.append_nil]
  refine wpAny_bind (wpAny_newList (wpAny_pure ?_) (by rw [List.length_drop, Array.length_toList]; omega))
  exact h h2 tk fun b o e => hk b o (h0 b o e) (hs.extBut b o (h0 b o e) (Heap.get?_push_of_some _ e))
end
end Nw
end

set_option Elab.async false
set_option linter.all false
set_option maxRecDepth 100000
set_option maxHeartbeats 4000000
noncomputable section
namespace Nw
open PySem L2 PySem.Spec PyProof.Rows

theorem lay_lst {K : PySem.W.Frag} {F : Fx} {I H : Hp} {σ : L2.St} {s : S} (R : Rel K F I H σ s) {p : Addr} (hp : H p = none) {vs : List V} {ds : List D} (h : DtAll K I vs ds) :
    Same I (upd I p (.lst vs)) ∧ Rel K F (upd I p (.lst vs)) (upd H p (.lst vs)) σ s ∧ Dt K (upd I p (.lst vs)) (.ref p) (.list ds) := by
  have sI : Same I (upd I p (.lst vs)) := same_new (R.le.free hp) _
  exact ⟨sI, R.lay hp, .lst (SqL.of upd_same) (h.mono sI)⟩
section
variable {X : Cx} {k : Nat} {C : Cf} {R : EvK}
theorem each_plain {env : Env} : ∀ {es : List Expr}, es.all noStar = true → assignEach es env = es.map fun e => (false, assign e env)
  | [], _ => rfl
  | e :: es, h => by
    rw [List.all_cons, Bool.and_eq_true] at h
    have ih := each_plain (env := env) h.2
    have e1 : assignEach (e :: es) env = (false, assign e env) :: assignEach es env := by cases e <;> first | rfl | cases h.1
    rw [e1, ih]
    rfl
theorem each_star {env : Env} : ∀ {es pre : List Expr} {t : Expr}, splitStar es = some (pre, t) → assignEach es env = (pre.map fun e => (false, assign e env)) ++ [(true, assign t env)] ∧ pre.all noStar = true
  | [], _, _, h => by cases h
  | [.Starred t' p], pre, t, h => by
    cases (show some ([], t') = some (pre, t) from h)
    exact ⟨rfl, rfl⟩
  | e :: e2 :: es, pre, t, h => by
    have hs : splitStar (e :: e2 :: es) = (if noStar e then (splitStar (e2 :: es)).map fun r => (e :: r.1, r.2) else none) := by cases e <;> rfl
    rw [hs] at h
    by_cases he : noStar e = true
    · rw [if_pos he] at h
      cases q : splitStar (e2 :: es) with
      | none => rw [q] at h; cases h
      | some r =>
        rw [q] at h
        cases h
        obtain ⟨h1, h2⟩ := each_star (env := env) (pre := r.1) (t := r.2) q
        have e1 : assignEach (e :: e2 :: es) env = (false, assign e env) :: assignEach (e2 :: es) env := by cases e <;> first | rfl | cases he
        rw [e1, h1]
        exact ⟨rfl, by rw [List.all_cons, he, h2]; rfl⟩
    · rw [if_neg he] at h
      cases h
  | [.BoolOp ..], _, _, h => by cases h
  | [.NamedExpr ..], _, _, h => by cases h
  | [.BinOp ..], _, _, h => by cases h
  | [.UnaryOp ..], _, _, h => by cases h
  | [.Lambda ..], _, _, h => by cases h
  | [.IfExp ..], _, _, h => by cases h
  | [.Dict ..], _, _, h => by cases h
  | [.Set ..], _, _, h => by cases h
  | [.ListComp ..], _, _, h => by cases h
  | [.SetComp ..], _, _, h => by cases h
  | [.DictComp ..], _, _, h => by cases h
  | [.GeneratorExp ..], _, _, h => by cases h
  | [.Await ..], _, _, h => by cases h
  | [.Yield ..], _, _, h => by cases h
  | [.YieldFrom ..], _, _, h => by cases h
  | [.Compare ..], _, _, h => by cases h
  | [.Call ..], _, _, h => by cases h
  | [.FormattedValue ..], _, _, h => by cases h
  | [.JoinedStr ..], _, _, h => by cases h
  | [.Constant ..], _, _, h => by cases h
  | [.Attribute ..], _, _, h => by cases h
  | [.Subscript ..], _, _, h => by cases h
  | [.Name ..], _, _, h => by cases h
  | [.List ..], _, _, h => by cases h
  | [.Tuple ..], _, _, h => by cases h
  | [.Slice ..], _, _, h => by cases h
/-- several targets one behind another, and more behind them -/
theorem asgs_run (sn : ∀ tg, SndA C X tg (R.asg tg)) : ∀ (es : List Expr) (ds : List D) (s s' : S), asgs R.asg es ds s = .ok () s' → es.length = ds.length ∧ ∀ (F : Fx) (I H : Hp) (σ : L2.St) (vs : List V), Rel X.K F I H σ s → DtAll X.K I vs ds →
    ∀ (ts : List (Value → Sem Unit)) (us ws : List Value) (pins : List (Addr × Obj)) (sh : Shared) (Qf : Unit → Shared → Prop), Inv X pins σ H sh → Vals vs us →
      (∀ (I' H' : Hp) (σ' : L2.St) (sh' : Shared), Inv X pins σ' H' sh' → Same I I' → Rel X.K F I' H' σ' s' → σ'.length = σ.length → (∀ own m, es.all (tgIn C own m) = true → ∀ (j : Nat), j ∉ own → σ'[j]? = σ[j]?) → wpAny (model X.prog X.w) X.A (assignInOrder ts ws) Qf X.xe sh') →
      wpAny (model X.prog X.w) X.A (assignInOrder ((es.map fun e => assign e X.env) ++ ts) (us ++ ws)) Qf X.xe sh
  | [], [], s, s', hm => by
    obtain ⟨_, rfl⟩ := ret_ok (show ret () s = .ok () s' from hm)
    refine ⟨rfl, fun F I H σ vs Rl hd ts us ws pins sh Qf inv rv h => ?_⟩
    cases hd
    cases rv
    exact h I H σ sh inv (Same.refl I) Rl rfl fun _ _ _ _ _ => rfl
  | e :: es, d :: ds, s, s', hm => by
    obtain ⟨⟨⟩, s1, h1, h2⟩ := bnd_ok (show bnd (R.asg e d) (fun _ => asgs R.asg es ds) s = .ok () s' from hm)
    obtain ⟨hl, ih⟩ := asgs_run sn es ds s1 s' h2
    refine ⟨by rw [List.length_cons, List.length_cons, hl], fun F I H σ vs Rl hd ts us ws pins sh Qf inv rv h => ?_⟩
    cases hd with | @cons v vs _ _ d1 d2 =>
    cases rv with | @cons _ u _ us r1 r2 =>
    refine assignInOrder_cons (thn (sn e d s s1 h1 F I H σ v (fun σ1 H1 => ∃ I1, Same I I1 ∧ Rel X.K F I1 H1 σ1 s1 ∧ σ1.length = σ.length ∧ ∀ own m, tgIn C own m e = true → ∀ (j : Nat), j ∉ own → σ1[j]? = σ[j]?) Rl d1 (fun I1 H1 σ1 a b c e => ⟨I1, a, b, c, e⟩) pins sh u inv r1) fun _ sh1 ⟨σ1, H1, inv1, I1, i1, R1, l1, k1⟩ => ?_)
    refine ih F I1 H1 σ1 vs R1 (d2.mono i1) ts us ws pins sh1 Qf inv1 r2 fun I2 H2 σ2 sh2 inv2 i2 R2 l2 k2 => ?_
    refine h I2 H2 σ2 sh2 inv2 (i1.trans i2) R2 (l2.trans l1) fun own m ho j hj => ?_
    rw [List.all_cons, Bool.and_eq_true] at ho
    exact (k2 own m ho.2 j hj).trans (k1 own m ho.1 j hj)
  | [], _ :: _, s, s', hm => by cases hm
  | _ :: _, [], s, s', hm => by cases hm
theorem find_none : ∀ {l : List Expr} {env : Env}, (l.map fun e => (false, assign e env)).findIdx? (·.1) = none
  | [], _ => rfl
  | e :: l, env => by
    rw [List.map_cons, List.findIdx?_cons]
    simp
theorem find_star : ∀ {l : List Expr} {t : Value → Sem Unit} {env : Env}, ((l.map fun e => (false, assign e env)) ++ [(true, t)]).findIdx? (·.1) = some l.length
  | [], _, _ => rfl
  | e :: l, t, env => by
    rw [List.map_cons, List.cons_append, List.findIdx?_cons]
    simp [find_star (l := l) (t := t) (env := env)]
def EvGs (X : Cx) (es : List Expr) : TGs := fun vs σ H Q => ∀ (pins : List (Addr × Obj)) (s : Shared) (us : List Value), Inv X pins σ H s → Vals vs us → wpAny (model X.prog X.w) X.A (assignInOrder ((assignEach es X.env).map (·.2)) us) (fun _ s' => ∃ σ' H', Inv X pins σ' H' s' ∧ Q σ' H') X.xe s
theorem pgs_w (es : List Expr) : PGs X es (EvGs X es) := ⟨fun pins s _ _ _ us _ I r h => h pins s us I r⟩
theorem splitStar_len : ∀ {es pre : List Expr} {t : Expr}, splitStar es = some (pre, t) → es.length = pre.length + 1 := fun {es pre t} h => by
  have q := (each_star (env := default) h).1
  have e1 : ∀ (l : List Expr) (env : Env), (assignEach l env).length = l.length := fun l env => by
    induction l with
    | nil => rfl
    | cons a l ih => cases a <;> (show _ + 1 = _ + 1; rw [ih])
  have := congrArg List.length q
  rw [e1] at this
  simpa using this
theorem split_in {own : List Nat} {m : Nat} : ∀ {es pre : List Expr} {t : Expr}, splitStar es = some (pre, t) → es.all (tgIn C own (m + 1)) = true → pre.all (tgIn C own (m + 1)) = true ∧ tgIn C own m t = true
  | [], _, _, h, _ => by cases h
  | [.Starred t' p], pre, t, h, ho => by
    cases (show some ([], t') = some (pre, t) from h)
    refine ⟨rfl, ?_⟩
    rw [List.all_cons, Bool.and_eq_true] at ho
    exact ho.1
  | e :: e2 :: es, pre, t, h, ho => by
    have hs : splitStar (e :: e2 :: es) = (if noStar e then (splitStar (e2 :: es)).map fun r => (e :: r.1, r.2) else none) := by cases e <;> rfl
    rw [hs] at h
    rw [List.all_cons, Bool.and_eq_true] at ho
    by_cases he : noStar e = true
    · rw [if_pos he] at h
      cases q : splitStar (e2 :: es) with
      | none => rw [q] at h; cases h
      | some r =>
        rw [q] at h
        cases h
        obtain ⟨h1, h2⟩ := split_in (pre := r.1) (t := r.2) q ho.2
        exact ⟨by rw [List.all_cons, ho.1, h1]; rfl, h2⟩
    · rw [if_neg he] at h
      cases h
  | [.BoolOp ..], _, _, h, _ => by cases h
  | [.NamedExpr ..], _, _, h, _ => by cases h
  | [.BinOp ..], _, _, h, _ => by cases h
  | [.UnaryOp ..], _, _, h, _ => by cases h
  | [.Lambda ..], _, _, h, _ => by cases h
  | [.IfExp ..], _, _, h, _ => by cases h
  | [.Dict ..], _, _, h, _ => by cases h
  | [.Set ..], _, _, h, _ => by cases h
  | [.ListComp ..], _, _, h, _ => by cases h
  | [.SetComp ..], _, _, h, _ => by cases h
  | [.DictComp ..], _, _, h, _ => by cases h
  | [.GeneratorExp ..], _, _, h, _ => by cases h
  | [.Await ..], _, _, h, _ => by cases h
  | [.Yield ..], _, _, h, _ => by cases h
  | [.YieldFrom ..], _, _, h, _ => by cases h
  | [.Compare ..], _, _, h, _ => by cases h
  | [.Call ..], _, _, h, _ => by cases h
  | [.FormattedValue ..], _, _, h, _ => by cases h
  | [.JoinedStr ..], _, _, h, _ => by cases h
  | [.Constant ..], _, _, h, _ => by cases h
  | [.Attribute ..], _, _, h, _ => by cases h
  | [.Subscript ..], _, _, h, _ => by cases h
  | [.Name ..], _, _, h, _ => by cases h
  | [.List ..], _, _, h, _ => by cases h
  | [.Tuple ..], _, _, h, _ => by cases h
  | [.Slice ..], _, _, h, _ => by cases h
theorem tgIn_mono {own : List Nat} : ∀ {m : Nat} {e : Expr}, tgIn C own m e = true → tgIn C own (m + 1) e = true
  | 0, _, h => by cases h
  | m + 1, e, h => by
    cases e with
    | Name x p => exact h
    | Tuple es a b =>
      have h' : es.all (tgIn C own m) = true := h
      show es.all (tgIn C own (m + 1)) = true
      exact List.all_eq_true.mpr fun x hx => tgIn_mono (List.all_eq_true.mp h' x hx)
    | Starred e p => exact tgIn_mono (m := m) (e := e) h
    | _ => cases h
/-- data in a list that was handed on, of either kind -/
theorem snd_asgT (cx : CtxOk k C X) (sn : ∀ tg, SndA C X tg (R.asg tg)) {es : List Expr} {kk : Nat} {pos : Pos} {d : D} {ds : List D} (hs : es.all noStar = true) (hd : d = .tuple ds ∨ d = .list ds) {s s' : S} (hm : asgs R.asg es ds s = .ok () s') :
    ∀ (F : Fx) (I H : Hp) (σ : L2.St) (v : V) (Q : L2.St → Hp → Prop), Rel X.K F I H σ s → Dt X.K I v d →
      (∀ I' H' σ', Same I I' → Rel X.K F I' H' σ' s' → σ'.length = σ.length → (∀ own m, es.all (tgIn C own m) = true → ∀ (j : Nat), j ∉ own → σ'[j]? = σ[j]?) → Q σ' H') → EvG X (.Tuple es kk pos) v σ H Q := by
  intro F I H σ v Q Rl dv q
  obtain ⟨hl, go⟩ := asgs_run sn es ds s s' hm
  have hlen : (assignEach es X.env).length = ds.length := by rw [each_plain hs, List.length_map, hl]
  have hst : (assignEach es X.env).findIdx? (·.1) = none := by rw [each_plain hs]; exact find_none
  have run : ∀ vs, DtAll X.K I vs ds → EvGs X es vs σ H Q := fun vs hv pins sh us inv rv => by
    rw [each_plain hs, List.map_map]
    have := go F I H σ vs Rl hv [] us [] pins sh (fun _ s' => ∃ σ' H', Inv X pins σ' H' s' ∧ Q σ' H') inv rv fun I' H' σ' sh' inv' i1 R1 l1 k1 => assignInOrder_nil ⟨σ', H', inv', q I' H' σ' i1 R1 l1 k1⟩
    rw [List.append_nil, List.append_nil] at this
    exact this
  rcases hd with rfl | rfl
  · cases dv with | @tup a vs _ h1 h2 =>
    exact ofPG (pg_tup cx.calm (pgs_w es) hlen hst) ⟨a, vs, rfl, sqT_mono Rl.le h1, h2.len, run vs h2⟩
  · cases dv with | @lst a vs _ h1 h2 =>
    exact ofPG (pg_lst cx.calm (pgs_w es) hlen hst) ⟨a, vs, rfl, Rl.le.seq h1, h2.len, run vs h2⟩
theorem drop_take_map {α : Type} (us : List α) (i : Nat) : us.toArray.toList.take i = us.take i := by simp
theorem snd_asgStar (cx : CtxOk k C X) (sn : ∀ tg, SndA C X tg (R.asg tg)) {es pre : List Expr} {t : Expr} {kk : Nat} {pos : Pos} {d : D} {ds : List D} (hs : splitStar es = some (pre, t)) (hd : seqD d = some ds) (hle : pre.length ≤ ds.length) {s s' : S}
    (hm : bnd (asgs R.asg pre (ds.take pre.length)) (fun _ => R.asg t (.list (ds.drop pre.length))) s = .ok () s') :
    ∀ (F : Fx) (I H : Hp) (σ : L2.St) (v : V) (Q : L2.St → Hp → Prop), Rel X.K F I H σ s → Dt X.K I v d →
      (∀ I' H' σ', Same I I' → Rel X.K F I' H' σ' s' → σ'.length = σ.length → (∀ own m, (pre.all (tgIn C own (m + 1)) = true ∧ tgIn C own m t = true) → ∀ (j : Nat), j ∉ own → σ'[j]? = σ[j]?) → Q σ' H') → EvG X (.Tuple es kk pos) v σ H Q := by
  intro F I H σ v Q Rl dv q pins sh u inv ru
  obtain ⟨⟨⟩, s1, h1, h2⟩ := bnd_ok hm
  obtain ⟨e1, e2⟩ := each_star (env := X.env) hs
  obtain ⟨hl, go⟩ := asgs_run sn pre _ s s1 h1
  rw [PyProof.Rows.assign_Tuple]
  refine wpAny_bind (wpAny_standAt ?_)
  unfold unpack
  rw [e1, find_star]
  have hn : ((pre.map fun e => (false, assign e X.env)) ++ [(true, assign t X.env)]).length = pre.length + 1 := by simp
  rw [hn]
  -- what comes behind the unpacking
  have fin : ∀ (vs : List V) (its : List Value), DtAll X.K I vs ds → Vals vs its → vs.length ≤ sizeLine → ∀ (h' : Heap) (tk : Nat), (∀ b o, sh.heap.get? b = some o → h'.get? b = some o) →
      wpAny (model X.prog X.w) X.A (assignInOrder (((pre.map fun e => (false, assign e X.env)) ++ [(true, assign t X.env)]).map (·.2)) (its.take pre.length ++ [.ref h'.objs.size])) (fun _ s' => ∃ σ' H', Inv X pins σ' H' s' ∧ Q σ' H') X.xe
        { sh with heap := h'.push { cls := .type "list", data := .seq (its.drop pre.length).toArray }, toks := tk } := fun vs its hv rv hz h' tk hk => by
    have inv1 : Inv X pins σ H { sh with heap := h', toks := tk } := inv.kept hk
    have hfree : H h'.objs.size = none := inv1.hok.fresh (Nat.le_refl _)
    have hdv : DtAll X.K I (vs.drop pre.length) (ds.drop pre.length) := hv.drop _
    have inv2 : Inv X pins σ (upd H h'.objs.size (.lst (vs.drop pre.length))) { sh with heap := h'.push { cls := .type "list", data := .seq (its.drop pre.length).toArray }, toks := tk } :=
      Inv.lnew (s := { sh with heap := h', toks := tk }) (t' := tk) inv1 (rv.drop pre.length) (by rw [List.length_drop]; omega)
    obtain ⟨sI, R2, dl⟩ := lay_lst Rl hfree hdv
    rw [List.map_append, List.map_map]
    refine go F _ _ σ (vs.take pre.length) R2 ((hv.take _).mono sI) [assign t X.env] (its.take pre.length) [.ref h'.objs.size] pins _ _ inv2 (rv.take _) fun I3 H3 σ3 sh3 inv3 i3 R3 l3 k3 => ?_
    refine assignInOrder_cons (thn (sn t _ s1 s' h2 F I3 H3 σ3 (.ref h'.objs.size) Q R3 (dl.mono i3) (fun I4 H4 σ4 i4 R4 l4 k4 => ?_) pins sh3 _ inv3 rfl) fun _ sh4 hh => assignInOrder_nil hh)
    exact q I4 H4 σ4 (sI.trans (i3.trans i4)) R4 (l4.trans l3) fun own m ho j hj => (k4 own m ho.2 j hj).trans (k3 own (m + 1) ho.1 j hj)
  cases dv with
  | @lst a vs _ g1 g2 =>
    cases hd
    cases ru
    obtain ⟨its, rv, pl, hz⟩ := inv.list (Rl.le.seq g1)
    have hsz : pre.length ≤ its.toArray.size := by rw [List.size_toArray, ← rv.length, g2.len]; exact hle
    refine wpAny_bind (wpAny_holding (star_list pl.isList (inv.ok.hd cx.calm) hsz (by rw [List.size_toArray, ← rv.length]; exact hz) fun h' tk hk => ?_))
    exact fin vs its g2 rv hz h' tk hk
  | @tup a vs _ g1 g2 =>
    cases hd
    cases ru
    obtain ⟨its, rv, pl, hz⟩ := inv.tuple (sqT_mono Rl.le g1)
    have hsz : pre.length ≤ its.toArray.size := by rw [List.size_toArray, ← rv.length, g2.len]; exact hle
    refine wpAny_bind (wpAny_holding (star_tuple pl (inv.ok.hd cx.calm) hsz (by rw [List.size_toArray, ← rv.length]; exact hz) fun h' tk hk => ?_))
    exact fin vs its g2 rv hz h' tk hk
  | _ => cases hd
end
end Nw
end

set_option Elab.async false
set_option linter.all false
set_option maxRecDepth 100000
set_option maxHeartbeats 4000000
noncomputable section
namespace Nw
open PySem L2 PySem.Spec

section
variable {K : PySem.W.Frag} {F : Fx} {I I' H H' : Hp} {σ : St} {s : S}
/-- who holds what a slot stands for -/
theorem root_pl (R : Rel K F I H σ s) {j : Nat} {t : T} (hp : mayPut j s = true) (hr : root j s = some t) : ∃ (p : Pl) (v0 : V), σ[j]? = some (some v0) ∧ Holds F σ s p v0 t ∧
    ∀ u, (∀ r v t', Holds F σ (rootPut j s u) r v t' → (r = p ∧ v = v0 ∧ t' = u) ∨ (r ≠ p ∧ Holds F σ s r v t')) ∧
      (∀ (i : Nat) (t : T), (rootPut j s u).g[i]? = some (Sl.v t) → ∃ v, σ[i]? = some (some v)) ∧ (∀ (i : Nat) (t : T), (rootPut j s u).g[i]? = some (Sl.lk t) → s.g[i]? = some (Sl.lk t)) ∧
      (∀ (i n : Nat), (rootPut j s u).g[i]? = some (Sl.bor n) → s.g[i]? = some (Sl.bor n)) ∧ (rootPut j s u).g.length = s.g.length ∧ (rootPut j s u).b.length = s.b.length := by
  unfold root at hr
  unfold rootPut
  split at hr
  · rename_i t' e
    cases hr
    obtain ⟨v, h1⟩ := R.val j _ e
    refine ⟨.s j, v, h1, ⟨h1, e⟩, fun u => ?_⟩
    rw [e]
    simp only
    refine ⟨fun r w t' hr => ?_, fun i t hi => ?_, fun i t hi => ?_, fun i n hi => ?_, by simp, by simp⟩
    · cases r with
      | s i =>
        obtain ⟨k1, k2⟩ := hr
        rcases gset k2 with ⟨rfl, e', _⟩ | ⟨n, e'⟩
        · cases e'
          rw [h1] at k1
          cases k1
          exact .inl ⟨rfl, rfl, rfl⟩
        · exact .inr ⟨fun z => n (by cases z; rfl), k1, e'⟩
      | c n => exact .inr ⟨by simp, hr⟩
      | t n => exact .inr ⟨by simp, hr⟩
    · rcases gset hi with ⟨rfl, e', _⟩ | ⟨n, e'⟩
      · exact ⟨v, h1⟩
      · exact R.val i t e'
    · rcases gset hi with ⟨rfl, e', _⟩ | ⟨n, e'⟩
      · cases e'
      · exact e'
    · rcases gset hi with ⟨rfl, e', _⟩ | ⟨m, e'⟩
      · cases e'
      · exact e'
  · rename_i t' e
    unfold mayPut at hp
    rw [e] at hp
    cases hp
  · rename_i n e
    split at hr
    · rename_i t' e2
      cases hr
      obtain ⟨v, h1, h2⟩ := R.bor j n e
      refine ⟨.c n, v, h1, ⟨h2, e2⟩, fun u => ?_⟩
      rw [e]
      simp only
      refine ⟨fun r w t' hr => ?_, R.val, fun i t hi => hi, fun i n hi => hi, by simp, by simp⟩
      cases r with
      | s i => exact .inr ⟨by simp, hr⟩
      | c m =>
        obtain ⟨k1, k2⟩ := hr
        rcases gset k2 with ⟨rfl, e', _⟩ | ⟨m', e'⟩
        · cases e'
          rw [h2] at k1
          cases k1
          exact .inl ⟨rfl, rfl, rfl⟩
        · exact .inr ⟨fun z => m' (by cases z; rfl), k1, e'⟩
      | t n => exact .inr ⟨by simp, hr⟩
    · cases hr
  · cases hr
theorem Rel.focus (R : Rel K F I H σ s) {j : Nat} {st : List Step} {t t1 : T} (hp : mayPut j s = true) (hr : root j s = some t) (hg : getP t st = some t1) : ∃ v0 v1 f1, σ[j]? = some (some v0) ∧ pathV H v0 st = some v1 ∧ TR K F.bs I H v1 t1 f1 ∧ f1.Nodup ∧ (∀ a ∈ f1, I a = none) ∧
    ∀ (I' H' : Hp) (t2 : T) (f2 : List Addr), Same I I' → Same I' H' → (∀ (a : Addr) (o : HO), I' a = some o → I a = some o ∨ H a = none ∨ a ∈ f1) → (∀ (a : Addr) (o : HO), a ∉ f1 → H a = some o → H' a = some o) → TR K F.bs I' H' v1 t2 f2 → f2.Nodup → (∀ a ∈ f2, I' a = none ∧ (H a = none ∨ a ∈ f1)) →
      Rel K F I' H' σ (rootPut j s (putP t st t2)) := by
  obtain ⟨p, v0, hv0, hh, hput⟩ := root_pl R hp hr
  obtain ⟨ow, R⟩ := R
  obtain ⟨fp, h1, h2, h3⟩ := R.hold p v0 t hh
  obtain ⟨v1, f1, k0, k1, k2, k3, k4⟩ := tr_focus h1 h2 hg
  have of1 : ∀ a ∈ f1, ow a = some p := fun a ha => h3 a (k3 a ha)
  refine ⟨v0, v1, f1, hv0, k0, k1, k2, fun a ha => (R.own a p (of1 a ha)).1, fun I' H' t2 f2 hI hH cI cH q1 q2 q3 => ?_⟩
  have nI : ∀ a p', ow a = some p' → a ∉ f1 → I' a = none := fun a p' e n => by
    cases q : I' a with
    | none => rfl
    | some o =>
      rcases cI a o q with z | z | z
      · rw [(R.own a p' e).1] at z; cases z
      · obtain ⟨o', ho⟩ := R.liv a p' e
        rw [ho] at z; cases z
      · exact absurd z n
  obtain ⟨fq, m1, m2, m3⟩ := k4 I' H' t2 f2 hI (fun a _ n o e => cH a o n e) q1 q2 (fun a ha => by
    rcases (q3 a ha).2 with z | z
    · refine .inr fun y => ?_
      obtain ⟨o, ho⟩ := R.liv a p (h3 a y)
      rw [ho] at z; cases z
    · exact .inl z)
  obtain ⟨g1, g2, g3, g4, g5, g6⟩ := hput (putP t st t2)
  refine R.put (q := p) (fp := fq) (cs := fun _ => False) like_refl hI hH (fun a o e => ?_) (fun a o e1 e2 e3 => ?_) (fun r v t' hr => ?_) m2 (fun a ha => ?_) (fun a p' e n _ => ?_) g2 (fun i t hi => ⟨g3 i t hi, rfl⟩) (fun i n hi => R.bor i n (g4 i n hi)) (by rw [g5]; exact R.len) g6
  · rcases cI a o e with z | z | z
    · exact .inl z
    · exact .inr (R.free z).1
    · exact .inr (R.own a p (of1 a z)).2
  · refine cH a o (fun z => ?_) e3
    rcases (R.own a p (of1 a z)).2 with y | y
    · rw [e1] at y; cases y
    · exact e2 y
  · rcases g1 r v t' hr with ⟨rfl, rfl, rfl⟩ | ⟨n, z⟩
    · exact .inl ⟨rfl, m1⟩
    · exact .inr ⟨n, id, z⟩
  · rcases m3 a ha with z | ⟨z, zn⟩
    · obtain ⟨w1, w2⟩ := q3 a z
      refine ⟨w1, ?_, q1.ex z, fun p' e => ?_⟩
      · rcases w2 with y | y
        · exact (R.free y).1
        · exact (R.own a p (of1 a y)).2
      · rcases w2 with y | y
        · rw [(R.free y).2.1] at e; cases e
        · rw [of1 a y] at e
          cases e
          exact .inl rfl
    · have e := h3 a z
      obtain ⟨o, ho⟩ := R.liv a p e
      refine ⟨nI a p e zn, (R.own a p e).2, ⟨o, cH a o zn ho⟩, fun p' e' => ?_⟩
      rw [e] at e'
      cases e'
      exact .inl rfl
  · have nf : a ∉ f1 := fun z => n (by rw [of1 a z] at e; cases e; rfl)
    exact ⟨nI a p' e nf, fun o ho => cH a o nf ho⟩
/-- a place is changed -/
theorem chP_at {p : Nat × List Step} {f : T → Option (D × T)} {r : D} {s' : S} (hm : chP p f s = .ok r s') (R : Rel K F I H σ s) : ∃ t1 u v0 v1 f1, getAt s p = some t1 ∧ f t1 = some (r, u) ∧ σ[p.1]? = some (some v0) ∧ pathV H v0 p.2 = some v1 ∧ TR K F.bs I H v1 t1 f1 ∧ f1.Nodup ∧ (∀ a ∈ f1, I a = none) ∧
    ∀ (I' H' : Hp) (f2 : List Addr), Same I I' → Same I' H' → (∀ (a : Addr) (o : HO), I' a = some o → I a = some o ∨ H a = none ∨ a ∈ f1) → (∀ (a : Addr) (o : HO), a ∉ f1 → H a = some o → H' a = some o) → TR K F.bs I' H' v1 u f2 → f2.Nodup → (∀ a ∈ f2, I' a = none ∧ (H a = none ∨ a ∈ f1)) → Rel K F I' H' σ s' := by
  unfold chP at hm
  by_cases hp : mayPut p.1 s = true
  · rw [if_pos hp] at hm
    cases hg : getAt s p with
    | none => simp only [hg] at hm; cases hm
    | some t1 =>
      simp only [hg] at hm
      cases hf : f t1 with
      | none => simp only [hf] at hm; cases hm
      | some ru =>
        obtain ⟨r', u⟩ := ru
        simp only [hf] at hm
        cases hm
        unfold getAt at hg
        cases hr : root p.1 s with
        | none => rw [hr] at hg; cases hg
        | some t =>
          rw [hr, Option.bind_some] at hg
          obtain ⟨v0, v1, f1, k1, k2, k3, k4, k5, k6⟩ := R.focus hp hr hg
          refine ⟨t1, u, v0, v1, f1, rfl, hf, k1, k2, k3, k4, k5, fun I' H' f2 a b c d e g h => ?_⟩
          have := k6 I' H' u f2 a b c d e g h
          unfold putAt
          rw [hr]
          exact this
  · rw [if_neg hp] at hm
    cases hm
/-- a list at a place is rewritten -/
theorem chL_at {p : Nat × List Step} {f : T → Option (D × T)} {r : D} {s' : S} (hm : chP p f s = .ok r s') (R : Rel K F I H σ s) (hl : ∀ t x, f t = some x → ∃ ts, t = .l ts) : ∃ ts u v0 a vs fp, getAt s p = some (.l ts) ∧ f (.l ts) = some (r, u) ∧ σ[p.1]? = some (some v0) ∧ pathV H v0 p.2 = some (.ref a) ∧ H a = some (.lst vs) ∧ a ∉ fp ∧ I a = none ∧ TRs K F.bs I H vs ts fp ∧ fp.Nodup ∧
    ∀ (us : List T) (ws : List V) (fg : List Addr), u = .l us → TRs K F.bs I H ws us fg → fg.Nodup → (∀ b ∈ fg, b ∈ fp) → Rel K F I (upd H a (.lst ws)) σ s' := by
  obtain ⟨t1, u, v0, v1, f1, g1, g2, g3, g4, g5, g6, g7, g8⟩ := chP_at hm R
  obtain ⟨ts, rfl⟩ := hl _ _ g2
  cases g5 with | @l a vs _ fp h1 h2 =>
  have ha : a ∉ fp := (List.nodup_cons.mp g6).1
  have hI : I a = none := g7 a (by simp)
  refine ⟨ts, u, v0, a, vs, fp, g1, g2, g3, g4, h1, ha, hI, h2, (List.nodup_cons.mp g6).2, fun us ws fg e tr nd hs => ?_⟩
  subst e
  have haf : a ∉ fg := fun z => ha (hs a z)
  refine g8 I (upd H a (.lst ws)) (a :: fg) (Same.refl I) (same_upd2 R.le hI) (fun b o e => .inl e) (fun b o n e => ?_) (.l upd_same (tr.mono (Same.refl I) fun b hb o e => ?_)) (List.nodup_cons.mpr ⟨haf, nd⟩) (fun b hb => ?_)
  · have hne : b ≠ a := fun z => n (by simp [z])
    rw [upd_ne hne]; exact e
  · have hne : b ≠ a := fun z => haf (by rw [← z]; exact hb)
    rw [upd_ne hne]; exact e
  · rcases List.mem_cons.mp hb with rfl | hb
    · exact ⟨hI, .inr (by simp)⟩
    · exact ⟨g7 b (by simp [hs b hb]), .inr (by simp [hs b hb])⟩
theorem Rel.wipe (R : Rel K F I H σ s) : ∀ vs : List Nat, Rel K F I H (L2.wipe σ vs) { s with g := wipeG s.g vs }
  | [] => R
  | v :: vs => by
    have := (Rel.wipe R vs).setU v none
    exact this
theorem backG_len (g0 g : List Sl) : ∀ vs : List Nat, (backG g0 g vs).length = g.length
  | [] => rfl
  | v :: vs => by
    unfold backG
    split
    · rw [List.length_set]; exact backG_len g0 g vs
    · exact backG_len g0 g vs
theorem backG_get {g0 g : List Sl} {j : Nat} {y : Sl} : ∀ {vs : List Nat}, (∀ v ∈ vs, v < g0.length) → (backG g0 g vs)[j]? = some y → (j ∈ vs ∧ g0[j]? = some y) ∨ (j ∉ vs ∧ g[j]? = some y)
  | [], _, h => .inr ⟨by simp, h⟩
  | v :: vs, hv, h => by
    have h0 : v < g0.length := hv v (by simp)
    have e0 : g0[v]? = some g0[v] := List.getElem?_eq_getElem h0
    unfold backG at h
    simp only [e0] at h
    rcases gset h with ⟨rfl, e, _⟩ | ⟨hne, e⟩
    · subst e
      exact .inl ⟨by simp, e0⟩
    · rcases backG_get (vs := vs) (fun u hu => hv u (by simp [hu])) e with ⟨a, b⟩ | ⟨a, b⟩
      · exact .inl ⟨by simp [a], b⟩
      · exact .inr ⟨by simp only [List.mem_cons, not_or]; exact ⟨fun z => hne z.symm, a⟩, b⟩
/-- behind a comprehension: the slots that its own names hid are as they were -/
theorem Rel.back {F0 : Fx} {s2 : S} {vs : List Nat} {I1 H1 : Hp} (R0 : Rel K F0 I1 H1 σ s) (R : Rel K F I H (L2.wipe σ vs) s2) (i1 : Same I1 I) (hno : noOwn s.g vs = true) (hv : ∀ v ∈ vs, v < s.g.length) : Rel K F I H σ { s2 with g := backG s.g s2.g vs } := by
  have no : ∀ (j : Nat) (x : Sl), j ∈ vs → s.g[j]? = some x → x = .un ∨ ∃ d, x = .v (.d d) := fun j x hj e => by
    have := List.all_eq_true.mp hno j hj
    simp only [e] at this
    split at this
    · rename_i d e2; cases e2; exact .inr ⟨_, rfl⟩
    · rename_i e2; cases e2; exact .inl rfl
    · cases this
  have out : ∀ (j : Nat), j ∉ vs → (L2.wipe σ vs)[j]? = σ[j]? := fun j hj => wipe_out hj
  obtain ⟨ow, R⟩ := R
  refine ⟨ow, R.le, R.le0, R.keep, R.new, fun p v t h => ?_, R.own, R.liv, fun j t e => ?_, fun j t e => ?_, fun j n e => ?_, ?_, R.blen⟩
  · cases p with
    | s j =>
      obtain ⟨h1, h2⟩ := h
      rcases backG_get hv h2 with ⟨hj, e⟩ | ⟨hj, e⟩
      · rcases no j _ hj e with z | ⟨d, z⟩
        · cases z
        · cases z
          obtain ⟨fp, k1, k2, _⟩ := R0.hold (p := .s j) ⟨h1, e⟩
          cases k1 with | d k1 => exact ⟨[], .d (k1.mono i1), List.nodup_nil, fun a ha => by cases ha⟩
      · exact R.hold (.s j) v t ⟨by rw [out j hj]; exact h1, e⟩
    | c n => exact R.hold (.c n) v t h
    | t n => exact R.hold (.t n) v t h
  · rcases backG_get hv e with ⟨hj, e⟩ | ⟨hj, e⟩
    · exact R0.val j t e
    · obtain ⟨v, h1⟩ := R.val j t e
      exact ⟨v, by rw [← out j hj]; exact h1⟩
  · rcases backG_get hv e with ⟨hj, e⟩ | ⟨hj, e⟩
    · rcases no j _ hj e with z | ⟨d, z⟩ <;> cases z
    · obtain ⟨v, fp, h1, h2⟩ := R.lk j t e
      exact ⟨v, fp, by rw [← out j hj]; exact h1, h2⟩
  · rcases backG_get hv e with ⟨hj, e⟩ | ⟨hj, e⟩
    · rcases no j _ hj e with z | ⟨d, z⟩ <;> cases z
    · obtain ⟨a, h1, h2⟩ := R.bor j n e
      exact ⟨a, by rw [← out j hj]; exact h1, h2⟩
  · show (backG s.g s2.g vs).length = σ.length
    rw [backG_len, R.len, wipe_length]
theorem wipe_eq {σ σ' : St} (hl : σ'.length = σ.length) : ∀ {vs : List Nat}, (∀ (j : Nat), j ∉ vs → σ'[j]? = σ[j]?) → L2.wipe σ' vs = L2.wipe σ vs := fun {vs} h => by
  apply List.ext_getElem?
  intro j
  by_cases hj : j ∈ vs
  · have : ∀ {τ : St}, τ.length = σ.length → ∀ {us : List Nat}, j ∈ us → (L2.wipe τ us)[j]? = if j < σ.length then some none else none := fun {τ} ht {us} hm => by
      induction us with
      | nil => cases hm
      | cons u us ih =>
        unfold L2.wipe
        by_cases e : u = j
        · subst e
          by_cases hlt : u < σ.length
          · rw [List.getElem?_set_self (by rw [wipe_length, ht]; exact hlt), if_pos hlt]
          · rw [if_neg hlt, List.getElem?_eq_none (by rw [List.length_set, wipe_length, ht]; omega)]
        · rw [List.getElem?_set_ne e]
          exact ih (by rcases List.mem_cons.mp hm with z | z; exact absurd z.symm e; exact z)
    rw [this hl hj, this rfl hj]
  · rw [wipe_out hj, wipe_out hj]
    exact h j hj
end

section
variable {X : Cx} {k : Nat} {C : Cf} {R : EvK}
theorem putD_l {k d : D} (t : T) (x : D × T) (h : putD k d t = some x) : ∃ ts, t = .l ts := by
  cases t with
  | l ts => exact ⟨ts, rfl⟩
  | _ => cases h
/-- an item is stored -/
theorem putD_ok {K : PySem.W.Frag} {F : Fx} {I H : Hp} {σ : St} {s s' : S} {p : Nat × List Step} {z : Int} {d r : D} {v : V} (hm : chP p (putD (.int z) d) s = .ok r s') (R : Rel K F I H σ s) (dv : Dt K I v d) : ∃ v0 a vs m, σ[p.1]? = some (some v0) ∧ pathV H v0 p.2 = some (.ref a) ∧ H a = some (.lst vs) ∧ ixN vs.length z = some m ∧ Rel K F I (upd H a (.lst (vs.set m v))) σ s' := by
  obtain ⟨ts, u, v0, a, vs, fp, g1, g2, g3, g4, g5, g6, g7, g8, g9, g10⟩ := chL_at hm R putD_l
  have g2' : (ixN ts.length z).map (fun m => (PyData.none, T.l (ts.set m (.d d)))) = some (r, u) := g2
  cases hx : ixN ts.length z with
  | none => rw [hx] at g2'; cases g2'
  | some m =>
    rw [hx] at g2'
    cases g2'
    refine ⟨v0, a, vs, m, g3, g4, g5, by rw [g8.len]; exact hx, ?_⟩
    cases hj : ts[m]? with
    | none =>
      have hle : ts.length ≤ m := List.getElem?_eq_none_iff.mp hj
      rw [List.set_eq_of_length_le (by rw [g8.len]; exact hle)]
      rw [List.set_eq_of_length_le hle] at g10
      exact g10 ts vs fp rfl g8 g9 fun b hb => hb
    | some t0 =>
      obtain ⟨vl, w, vr, tl, tr, fl, fj, fr, rfl, rfl, l1, l2, rfl, q1, q2, q3⟩ := g8.split hj
      rw [set_app l1] at g10
      rw [set_app l2]
      have nd := List.nodup_append.mp g9
      have nd2 := List.nodup_append.mp nd.2.1
      refine g10 _ _ (fl ++ ([] ++ fr)) rfl (q1.join (.d dv) q3) ?_ (fun b hb => ?_)
      · rw [List.nil_append]
        exact List.nodup_append.mpr ⟨nd.1, nd2.2.1, fun x hx y hy => nd.2.2 x hx y (List.mem_append_right _ hy)⟩
      · rw [List.nil_append] at hb
        rcases List.mem_append.mp hb with hb | hb
        · simp [hb]
        · simp [hb]
theorem snd_stepA {RC : Cf → EvK} (cx : CtxOk k C X) (sn : Snd C X (RC C)) (tg : Expr) : SndA C X tg (stepA RC C tg) := by
  intro d s s' hm F I H σ v Q Rl dv q
  cases tg with
  | Name x p =>
    unfold stepA at hm
    cases hi : locOf C x with
    | none => simp only [hi] at hm; cases hm
    | some i =>
      simp only [hi] at hm
      cases (show Res.ok () { s with g := s.g.set i (.v (.d d)) } = Res.ok () s' from hm)
      obtain ⟨h1, h2, h3⟩ := locOf_ok cx hi
      refine ofPG (pg_name (by rw [cx.N]; exact cx.nd) h1 h2 h3) ?_
      refine q I H _ (Same.refl I) (Rl.setD i dv) (by rw [List.length_set]) fun own m ho j hj => ?_
      cases m with
      | zero => cases ho
      | succ m =>
        have ho' : (match locOf C x with | some i => own.contains i | none => false) = true := ho
        simp only [hi] at ho'
        have hne : i ≠ j := fun z => hj (by rw [← z]; exact List.contains_iff_mem.mp ho')
        rw [List.getElem?_set_ne hne]
  | Tuple es kk pos =>
    unfold stepA at hm
    by_cases hs : es.all noStar = true
    · simp only [hs, if_true] at hm
      have fin : ∀ ds, (d = .tuple ds ∨ d = .list ds) → asgs (RC C).asg es ds s = .ok () s' → EvG X (.Tuple es kk pos) v σ H Q := fun ds hd hm =>
        snd_asgT cx sn.asg hs hd hm F I H σ v Q Rl dv fun I' H' σ' a b c e => q I' H' σ' a b c fun own m ho j hj => by
          cases m with
          | zero => cases ho
          | succ m => exact e own m ho j hj
      cases d <;> try (cases hm; done)
      · exact fin _ (.inr rfl) hm
      · exact fin _ (.inl rfl) hm
    · simp only [hs] at hm
      cases hq : splitStar es with
      | none => simp only [hq] at hm; cases hm
      | some r =>
        obtain ⟨pre, t⟩ := r
        cases hd : seqD d with
        | none => simp only [hq, hd] at hm; cases hm
        | some ds =>
          simp only [hq, hd] at hm
          by_cases hle : pre.length ≤ ds.length
          · simp only [hle, if_true] at hm
            refine snd_asgStar cx sn.asg hq hd hle hm F I H σ v Q Rl dv fun I' H' σ' a b c e => q I' H' σ' a b c fun own m ho j hj => ?_
            cases m with
            | zero => cases ho
            | succ m =>
              have ho' : es.all (tgIn C own m) = true := ho
              cases m with
              | zero =>
                cases es with
                | nil => cases hq
                | cons e es => rw [List.all_cons] at ho'; cases ho'
              | succ m => exact e own m (split_in hq ho') j hj
          · simp only [hle, if_false] at hm
            cases hm
  | Subscript a i pos =>
    cases a with
    | Name x p =>
      unfold stepA at hm
      by_cases hs : notSlice i = true
      · simp only [hs, if_true] at hm
        cases hj : slotOf C x with
        | none => simp only [hj] at hm; cases hm
        | some j =>
          simp only [hj] at hm
          obtain ⟨c0, s0, h0, hm2⟩ := bnd_ok hm
          obtain ⟨e0, v0, hv0, _⟩ := pkS_at h0 Rl
          subst e0
          obtain ⟨kd, s1, h1, h2⟩ := bnd_ok hm2
          obtain ⟨r, s2, h3, h4⟩ := bnd_ok h2
          obtain ⟨_, rfl⟩ := ret_ok h4
          refine ofPG (pg_sub (pe_slot cx hj) (pe_w i) set_list (by
            intro v
            cases i <;> first | rfl | cases hs)) ⟨v0, hv0, snd_dE sn.e i s0 _ _ h1 F I H σ _ Rl fun u I1 H1 i1 R1 d1 => ?_⟩
          obtain ⟨ts, u', _, _, _, _, _, g2, _⟩ := chL_at h3 R1 putD_l
          cases kd <;> try (cases g2; done)
          rename_i z
          cases d1
          obtain ⟨w0, a, vs, m, k1, k2, k3, k4, k5⟩ := putD_ok h3 R1 (dv.mono i1)
          have k1' : σ[j]? = some (some w0) := k1
          rw [hv0] at k1'
          cases k1'
          have k2' : pathV H1 v0 [] = some (.ref a) := k2
          rw [pathV_nil] at k2'
          cases k2'
          exact ⟨a, vs, z, m, rfl, rfl, k3, k4, q I1 _ σ i1 k5 rfl fun _ _ _ _ _ => rfl⟩
      · simp only [hs] at hm
        cases hm
    | Subscript a2 i2 q2 =>
      cases i with
      | Constant c ck cp =>
        cases c with
        | int z =>
          have hm' : (match plc C s (.Subscript a2 i2 q2) with
            | some p => bnd (chP p (putD (.int z) d)) (fun _ => ret ()) s
            | none => .bad) = .ok () s' := hm
          cases hp : plc C s (.Subscript a2 i2 q2) with
          | none => rw [hp] at hm'; cases hm'
          | some p =>
            rw [hp] at hm'
            obtain ⟨r, s1, h1, h2⟩ := bnd_ok hm'
            obtain ⟨_, rfl⟩ := ret_ok h2
            obtain ⟨v0, a, vs, m, k1, k2, k3, k4, k5⟩ := putD_ok h1 Rl dv
            obtain ⟨ts, u', _, _, _, _, g1, _⟩ := chL_at h1 Rl putD_l
            refine ofPG (pg_sub (pe_w _) pe_int set_list (by intro v; rfl)) (snd_plc cx _ hp g1 F I H σ _ Rl fun v0' v' fp hv' hpv _ => ?_)
            rw [k1] at hv'
            cases hv'
            rw [k2] at hpv
            cases hpv
            exact ⟨a, vs, z, m, rfl, rfl, k3, k4, q I _ σ (Same.refl I) k5 rfl fun _ _ _ _ _ => rfl⟩
        | _ => cases hm
      | _ => cases hm
    | _ => cases hm
  | _ => cases hm

/-! ### comprehensions -/
theorem ctx_blk (cx : CtxOk k C X) {scope : Scope} {own : List (Str × Nat)} (ok : BlkOk C.N C.sc scope own) (s0 : Shared) (H0 : Hp) (Ca : Addr) (cl : List (Str × Addr)) (fp : List Addr) : CtxOk k (blkCf C scope) (X.blk s0 H0 scope (compEnvC scope cl Ca X.env) fp) := by
  refine ⟨cx.N, ?_, ok.kind, cx.nd, cx.calm, cx.room, fun x h => h, cx.blt, cx.gl, cx.gd, cx.fns, cx.ex⟩
  show relS scope X.env.scope = relS scope C.sc
  rw [cx.sc]
theorem own_lt {N : List Str} {scope : Scope} {own : List (Str × Nat)} {sc : Scope} (ok : BlkOk N sc scope own) : ∀ v ∈ own.map (·.2), v < N.length := fun v hv => by
  obtain ⟨p, hp, rfl⟩ := List.mem_map.mp hv
  exact (List.getElem?_eq_some_iff.mp (ok.ix p hp)).1
theorem sndTs {X' : Cx} {C' : Cf} {R' : EvK} (sn : Snd C' X' R') {ifs : List Expr} : ∀ s b s', tests R' ifs s = .ok b s' → ∃ t, PTs X' ifs t ∧ ∀ (F : Fx) (I H : Hp) (σ : St) (Q : Bool → Hp → Prop), Rel X'.K F I H σ s → (∀ I' H', Same I I' → Rel X'.K F I' H' σ s' → Q b H') → t σ H Q := by
  intro s b s' hm
  match ifs, hm with
  | [], hm =>
    obtain ⟨rfl, rfl⟩ := ret_ok (show ret true s = .ok b s' from hm)
    exact ⟨_, pts_nil, fun F I H σ Q Rl q => q I H (Same.refl I) Rl⟩
  | [c], hm => exact ⟨_, pts_one (pt_w c), fun F I H σ Q Rl q => sn.t c s b s' hm F I H σ Q Rl q⟩
  | _ :: _ :: _, hm => cases hm
/-- the readings of a block's parts, whatever block it is -/
def BT (X' : Cx) (ifs : List Expr) : TT := fun σ H Q => ∀ (pins : List (Addr × Obj)) (s : Shared), Inv X' pins σ H s → wpAny (model X'.prog X'.w) X'.A (forIn ifs true fun c r => if r = true then do let ok ← isTrue c X'.env (eval c X'.env); pure (ForInStep.yield ok) else pure (ForInStep.yield r)) (TP X' pins σ Q) X'.xe s
theorem pts_w {X' : Cx} (ifs : List Expr) : PTs X' ifs (BT X' ifs) := ⟨fun pins s _ _ _ I h => h pins s I⟩
end
end Nw
end

set_option Elab.async false
set_option linter.all false
set_option maxRecDepth 100000
set_option maxHeartbeats 4000000
noncomputable section
namespace Nw
open PySem L2 PySem.Spec

theorem dts_d : ∀ ds : List D, dts (ds.map T.d) = some ds
  | [] => rfl
  | d :: ds => by show (match dts (ds.map T.d) with | some ds => some (d :: ds) | none => none) = _; rw [dts_d ds]
/-- a new list that nobody holds as yet: its items -/
theorem Rel.tmpL {K : PySem.W.Frag} {F : Fx} {I H : Hp} {σ : St} {s : S} {a : Addr} {ds : List D} (R : Rel K (F.push (.ref a) (.l (ds.map T.d))) I H σ s) : ∃ vs, H a = some (.lst vs) ∧ DtAll K I vs ds := by
  obtain ⟨ow, R⟩ := R
  obtain ⟨fp, h, _⟩ := R.hold (.t F.ts.length) (.ref a) (.l (ds.map T.d)) (by show (F.ts ++ [(V.ref a, T.l (ds.map T.d))])[F.ts.length]? = some _; simp)
  cases h with | l h1 h2 =>
  exact ⟨_, h1, (h2.dts (dts_d ds)).1⟩
theorem Rel.tmpApp {K : PySem.W.Frag} {F : Fx} {I H : Hp} {σ : St} {s : S} {a : Addr} {ds : List D} {vs : List V} {y : V} {d : D} (R : Rel K (F.push (.ref a) (.l (ds.map T.d))) I H σ s) (h : H a = some (.lst vs)) (hv : DtAll K I vs ds) (dy : Dt K I y d) :
    Rel K (F.push (.ref a) (.l ((ds ++ [d]).map T.d))) I (upd H a (.lst (vs ++ [y]))) σ s := by
  obtain ⟨ow, R⟩ := R
  obtain ⟨fp, h1, h2, h3⟩ := R.hold (.t F.ts.length) (.ref a) (.l (ds.map T.d)) (by show (F.ts ++ [(V.ref a, T.l (ds.map T.d))])[F.ts.length]? = some _; simp)
  have ha : ow a = some (.t F.ts.length) := by
    cases h1 with | l => exact h3 a (by simp)
  have hI : I a = none := (R.own a _ ha).1
  rw [← push_eq]
  refine RelO.reblock (F := F) (ps := [(V.ref a, T.l (ds.map T.d))]) (ff := [a]) (fg := [a]) R (fun b hb => ?_) (Same.refl I) (same_upd2 R.le hI) (fun b o e => .inl e) (fun b o n e => ?_) ?_ (by simp) (fun b hb => ?_)
  · rw [List.mem_singleton] at hb
    subst hb
    exact ⟨0, by simp, ha⟩
  · have hne : b ≠ a := fun z => n (by simp [z])
    rw [upd_ne hne]; exact e
  · exact TRs.one (.l (fp := []) upd_same (TRs.of_data (hv.append (.cons dy .nil))))
  · rw [List.mem_singleton] at hb
    subst hb
    exact ⟨hI, .inr (by simp)⟩
section
variable {X : Cx} {k : Nat} {C : Cf}
theorem fold_of {iter : Expr} (h : notSet iter = true) (env : Env) : ∀ x, foldedSetIterable iter env x = pure x := fun x => by
  cases iter <;> first | rfl | cases h
/-- the readings of a block's parts, whatever block it is -/
def gB (X : Cx) (scope : Scope) (tg : Expr) : TG := fun v σ H Q => ∀ (s0 : Shared) (H0 : Hp) (Ca : Addr) (cl : List (Str × Addr)) (fp : List Addr), EvG (X.blk s0 H0 scope (compEnvC scope cl Ca X.env) fp) tg v σ H Q
def tB' (X : Cx) (scope : Scope) (ifs : List Expr) : TT := fun σ H Q => ∀ (s0 : Shared) (H0 : Hp) (Ca : Addr) (cl : List (Str × Addr)) (fp : List Addr), BT (X.blk s0 H0 scope (compEnvC scope cl Ca X.env) fp) ifs σ H Q
def eB (X : Cx) (scope : Scope) (elt : Expr) : TE := fun σ H Q => ∀ (s0 : Shared) (H0 : Hp) (Ca : Addr) (cl : List (Str × Addr)) (fp : List Addr), EvE (X.blk s0 H0 scope (compEnvC scope cl Ca X.env) fp) elt σ H Q
def compM (RC : Cf → EvK) (C : Cf) (elt tg iter : Expr) (ifs : List Expr) (scope : Scope) : S → Res T := bnd ((RC C).it tg iter) fun ds s => if noOwn s.g ((ownOf C scope).map (·.2)) then
        (match compL ((ownOf C scope).map (·.2)) ((RC (blkCf C scope)).asg tg) (tests (RC (blkCf C scope)) ifs) (dE (RC (blkCf C scope)) elt) ds [] { s with g := wipeG s.g ((ownOf C scope).map (·.2)) } with
        | .ok acc s' => .ok (.l (acc.map T.d)) { s' with g := backG s.g s'.g ((ownOf C scope).map (·.2)) }
        | .exc _ _ => .bad
        | .bad => .bad) else .bad
theorem comp_reading {RC : Cf → EvK} (cx : CtxOk k C X) (sn : Snd C X (RC C)) {elt tg iter : Expr} {ifs : List Expr} {scope : Scope} (hblk : blkC C.N C.sc scope (ownOf C scope) = true) (htg : tgIn (blkCf C scope) ((ownOf C scope).map (·.2)) 6 tg = true)
    (snb : ∀ X' : Cx, CtxOk k (blkCf C scope) X' → Snd (blkCf C scope) X' (RC (blkCf C scope))) {s s' : S} {t : T} (hm : compM RC C elt tg iter ifs scope s = .ok t s') {F : Fx} {I H : Hp} {σ : St} {Q : VK} (Rl : Rel X.K F I H σ s) (hσ : σ.length = C.N.length)
    (q : ∀ a I' H', Same I I' → Rel X.K (F.push (.ref a) t) I' H' σ s' → Q (.ref a) H') : tLc (EvI X tg iter) (gB X scope tg) (tB' X scope ifs) (eB X scope elt) ((ownOf C scope).map (·.2)) σ H Q := by
  have ok : BlkOk C.N C.sc scope (ownOf C scope) := blkOk_by hblk
  unfold compM at hm
  generalize hown : (ownOf C scope).map (·.2) = own at htg hm ⊢
  obtain ⟨ds, s1, h1, h2⟩ := bnd_ok hm
  by_cases hno : noOwn s1.g own = true
  · rw [if_pos hno] at h2
    cases hc : compL own ((RC (blkCf C scope)).asg tg) (tests (RC (blkCf C scope)) ifs) (dE (RC (blkCf C scope)) elt) ds [] { s1 with g := wipeG s1.g own } with
    | bad => rw [hc] at h2; cases h2
    | exc _ _ => rw [hc] at h2; cases h2
    | ok acc s2 =>
      rw [hc] at h2
      cases h2
      refine sn.it tg iter s ds s1 h1 F I H σ _ Rl fun J I1 H1 i1 R1 wk => ?_
      intro Dd hD
      have hlt : ∀ v ∈ own, v < s1.g.length := fun v hv => by
        rw [← hown] at hv
        rw [R1.len, hσ]
        exact own_lt ok v hv
      refine ⟨fun i m Hc => m = ds.length - i ∧ i ≤ ds.length ∧ ∃ (Ic : Hp) (accD : List D) (sc : S), Same I1 Ic ∧ Rel X.K (F.push (.ref Dd) (.l (accD.map T.d))) Ic Hc (L2.wipe σ own) sc ∧
        compL own ((RC (blkCf C scope)).asg tg) (tests (RC (blkCf C scope)) ifs) (dE (RC (blkCf C scope)) elt) (ds.drop i) accD sc = .ok acc s2, ⟨ds.length, by simp, Nat.zero_le _, ?_⟩, ?_⟩
      · exact ⟨I1, [], _, Same.refl I1, push_lst (R1.wipe own) hD .nil, by rw [List.drop_zero]; exact hc⟩
      · rintro i m Hc ⟨rfl, hi, Ic, accD, sc, i2, Rc, hcc⟩
        obtain ⟨wgo, wstop⟩ := wk i Ic Hc i2 Rc.le
        by_cases hil : i < ds.length
        · have hdd : ds.drop i = ds[i] :: ds.drop (i + 1) := List.drop_eq_getElem_cons hil
          rw [hdd] at hcc
          obtain ⟨⟨⟩, sa, ha, hcc⟩ := bnd_ok (show bnd ((RC (blkCf C scope)).asg tg ds[i]) (fun _ => bnd (tests (RC (blkCf C scope)) ifs) fun b => if b then bnd (dE (RC (blkCf C scope)) elt) fun d => if accD.length < sizeLine then (fun s => compL own ((RC (blkCf C scope)).asg tg) (tests (RC (blkCf C scope)) ifs) (dE (RC (blkCf C scope)) elt) (ds.drop (i + 1)) (accD ++ [d]) { s with g := wipeG s.g own }) else fail
            else fun s => compL own ((RC (blkCf C scope)).asg tg) (tests (RC (blkCf C scope)) ifs) (dE (RC (blkCf C scope)) elt) (ds.drop (i + 1)) accD { s with g := wipeG s.g own }) sc = .ok acc s2 from hcc)
          obtain ⟨b, sb, hb1, hb2⟩ := bnd_ok hcc
          obtain ⟨go, yld⟩ := wgo ds[i] (List.getElem?_eq_getElem hil)
          refine .inr ⟨go, _, fun H' hN => ⟨ds.length - (i + 1), by omega, rfl, hil, hN⟩, fun x H' y => ?_⟩
          obtain ⟨Iy, i3, Ry, dx⟩ : ∃ Iy, Same Ic Iy ∧ Rel X.K (F.push (.ref Dd) (.l (accD.map T.d))) Iy H' (L2.wipe σ own) sc ∧ Dt X.K Iy x ds[i] := by
            rcases yld x H' y with ⟨rfl, dx⟩ | ⟨T, o, hT, rfl, dx⟩
            · exact ⟨Ic, Same.refl Ic, Rc, dx⟩
            · exact ⟨_, same_new (Rc.le.free hT) o, Rc.lay hT, dx⟩
          intro s0 H0 Ca cl fp
          refine (snb _ (ctx_blk cx ok s0 H0 Ca cl fp)).asg tg ds[i] sc sa ha _ Iy H' (L2.wipe σ own) x _ Ry dx fun I3 H3 σ3 j3 R3 l3 k3 => ?_
          have hw : L2.wipe σ3 own = L2.wipe σ own := wipe_eq (by rw [l3, wipe_length]) fun j hj => by rw [k3 own 6 htg j hj, wipe_out hj]
          refine ⟨hw, ?_⟩
          intro s0 H0 Ca cl fp
          obtain ⟨t, pt, ht⟩ := sndTs (snb _ (ctx_blk cx ok s0 H0 Ca cl fp)) sa b sb hb1
          refine fun pins sh inv => pt.run pins sh σ3 H3 _ inv (ht _ I3 H3 σ3 _ R3 fun I4 H4 j4 R4 => ?_)
          cases b with
          | true =>
            rw [if_pos rfl] at hb2 ⊢
            obtain ⟨dd, sd, hd1, hd2⟩ := bnd_ok hb2
            by_cases hz : accD.length < sizeLine
            · rw [if_pos hz] at hd2
              intro s0 H0 Ca cl fp
              refine snd_dE (snb _ (ctx_blk cx ok s0 H0 Ca cl fp)).e elt sb dd sd hd1 _ I4 H4 σ3 _ R4 fun y I5 H5 j5 R5 dy => ?_
              obtain ⟨accV, n1, n2⟩ := Rel.tmpL R5
              have Rw := R5.wipe own
              rw [hw] at Rw
              exact ⟨accV, n1, by rw [n2.len]; exact hz, I5, accD ++ [dd], _, i2.trans (i3.trans (j3.trans (j4.trans j5))), Rel.tmpApp Rw n1 n2 dy, hd2⟩
            · rw [if_neg hz] at hd2
              cases hd2
          | false =>
            rw [if_neg Bool.false_ne_true] at hb2 ⊢
            have Rw := R4.wipe own
            rw [hw] at Rw
            exact ⟨I4, accD, _, i2.trans (i3.trans (j3.trans j4)), Rw, hb2⟩
        · have ei : i = ds.length := by omega
          subst ei
          rw [List.drop_length] at hcc
          cases (show Res.ok accD sc = Res.ok acc s2 from hcc)
          exact .inl ⟨wstop (Nat.le_refl _), q Dd Ic Hc (i1.trans i2) (Rel.back R1 Rc i2 hno hlt)⟩
  · rw [if_neg hno] at h2
    cases h2
theorem gB_ok {scope : Scope} {tg : Expr} (s0 : Shared) (H0 : Hp) (Ca : Addr) (cl : List (Str × Addr)) (fp : List Addr) : PG (X.blk s0 H0 scope (compEnvC scope cl Ca X.env) fp) tg (gB X scope tg) := ⟨fun pins sh _ _ _ u _ I r h => h s0 H0 Ca cl fp pins sh u I r⟩
theorem tB_ok {scope : Scope} {ifs : List Expr} (s0 : Shared) (H0 : Hp) (Ca : Addr) (cl : List (Str × Addr)) (fp : List Addr) : PTs (X.blk s0 H0 scope (compEnvC scope cl Ca X.env) fp) ifs (tB' X scope ifs) := ⟨fun pins sh _ _ _ I h => h s0 H0 Ca cl fp pins sh I⟩
theorem eB_ok {scope : Scope} {elt : Expr} (s0 : Shared) (H0 : Hp) (Ca : Addr) (cl : List (Str × Addr)) (fp : List Addr) : PE (X.blk s0 H0 scope (compEnvC scope cl Ca X.env) fp) elt (eB X scope elt) := ⟨fun pins sh _ _ _ I h => h s0 H0 Ca cl fp pins sh I⟩
theorem blkX (cx : CtxOk k C X) {scope : Scope} (hblk : blkC C.N C.sc scope (ownOf C scope) = true) : BlkOk X.N X.env.scope scope (ownOf C scope) := by rw [cx.N, cx.sc]; exact blkOk_by hblk
theorem snd_comp {RC : Cf → EvK} (cx : CtxOk k C X) (sn : Snd C X (RC C)) {elt tg iter : Expr} {ifs : List Expr} {scope : Scope} {pos : Pos} (hset : notSet iter = true) (hblk : blkC C.N C.sc scope (ownOf C scope) = true) (htg : tgIn (blkCf C scope) ((ownOf C scope).map (·.2)) 6 tg = true)
    (snb : ∀ X' : Cx, CtxOk k (blkCf C scope) X' → Snd (blkCf C scope) X' (RC (blkCf C scope))) : SndE X (.ListComp elt [⟨tg, iter, ifs, 0⟩] scope pos) (compM RC C elt tg iter ifs scope) := by
  intro s t s' hm F I H σ Q Rl q pins sh inv
  refine (pe_lc cx.calm (by rw [cx.N]; exact cx.nd) (pi_w tg iter) (blkX cx hblk) gB_ok tB_ok eB_ok (fold_of hset X.env)).run pins sh σ H Q inv ?_
  exact comp_reading cx sn hblk htg snb hm Rl (by rw [inv.len, cx.N]) fun a I' H' i R => q _ I' H' i R
end
end Nw
end

set_option Elab.async false
set_option linter.all false
set_option maxRecDepth 100000
set_option maxHeartbeats 4000000
noncomputable section
namespace Nw
open PySem L2 PySem.Spec
section
variable {X : Cx} {k : Nat} {C : Cf} {R : EvK}
theorem sndE_fail {e : Expr} : SndE X e fail := fun _ _ _ h => by cases h
theorem sndT_fail {e : Expr} : SndT X e fail := fun _ _ _ h => by cases h
theorem sndE_if {e : Expr} {b : Bool} {m m' : S → Res T} (h : b = true → SndE X e m) (h' : b = false → SndE X e m') : SndE X e (if b = true then m else m') := by
  cases b with
  | true => rw [if_pos rfl]; exact h rfl
  | false => rw [if_neg Bool.false_ne_true]; exact h' rfl
/-- a written dict -/
theorem snd_gd (cx : CtxOk k C X) (sn : ∀ e, SndE X e (R.e e)) {x : Str} {p : Pos} {i : Expr} {pos : Pos} {kvs : List (Str × D)} (hg : isGl C x = true) (hd : C.gd x = some kvs) (hs : notSlice i = true) :
    SndE X (.Subscript (.Name x p) i pos) (bnd (dE R i) fun k => lift (match k with | .str z => (kvs.lookup z).map T.d | _ => none)) := by
  intro s t s' hm F I H σ Q Rl q
  obtain ⟨kk, s1, h1, h2⟩ := bnd_ok hm
  obtain ⟨e, rfl⟩ := lift_ok h2
  obtain ⟨g1, g2⟩ := isGl_ok cx hg
  obtain ⟨a, m1, m2⟩ := cx.gd x kvs hd
  cases kk <;> try (cases e; done)
  rename_i z
  obtain ⟨d, e', rfl⟩ := Option.map_eq_some_iff.mp e
  obtain ⟨v, k1, k2⟩ := m2 z d e'
  refine ofPE (pe_ix ix_kdict (pe_glob g1 m1 (v := .ref a) rfl g2) (pe_w i) (plain_of hs)) (snd_dE sn i s _ _ h1 F I H σ _ Rl fun u I1 H1 i1 R1 d1 => ?_)
  cases d1
  exact ⟨a, z, v, rfl, rfl, k1, q v I1 H1 i1 (R1.pushD (k2 I1))⟩
theorem snd_sub (cx : CtxOk k C X) {e : Expr} {m : S → Res T} (h : SndE X e m) : SndE X e (fun s => match (plc C s e).bind (getAt s) with | some (.d d) => .ok (.d d) s | _ => m s) := by
  intro s t s' hm F I H σ Q Rl q
  cases hp : plc C s e with
  | none => simp only [hp, Option.bind_none] at hm; exact h s t s' hm F I H σ Q Rl q
  | some p =>
    simp only [hp, Option.bind_some] at hm
    cases hg : getAt s p with
    | none => simp only [hg] at hm; exact h s t s' hm F I H σ Q Rl q
    | some t' =>
      cases t' with
      | d d =>
        simp only [hg] at hm
        cases hm
        exact snd_plc cx e hp hg F I H σ Q Rl fun _ v fp _ _ tr => by
          cases tr with | d dv => exact q v I H (Same.refl I) (Rl.pushD dv)
      | _ => simp only [hg] at hm; exact h s t s' hm F I H σ Q Rl q
theorem base_of {o : Expr} (h : notSup o = true) (m : Str) (env : Env) (w : Sem Value) : attributeBase o m env w = w := by
  unfold attributeBase
  split
  · cases h
  · rfl
theorem strs_of {K : PySem.W.Frag} {I : Hp} : ∀ {vs : List V} {ds : List D} {xs : List Str}, DtAll K I vs ds → strsD ds = some xs → vs = xs.map V.str
  | _, _, xs, .nil, e => by cases (show some [] = some xs from e); rfl
  | _, _, xs, .cons (d := d) (ds := ds) h t, e => by
    cases h with
    | str x =>
      have e' : (match strsD ds with | some xs => some (x :: xs) | none => none) = some xs := e
      cases q : strsD ds with
      | none => rw [q] at e'; cases e'
      | some ys =>
        rw [q] at e'
        cases e'
        rw [strs_of t q]
        rfl
    | _ => cases e
/-- a rule for a method of texts -/
def MethR (X : Cx) (m a : Str) (ds : List D) (t : T) : Prop := ∃ id r, Slot "str" m id ∧ typeOf (.builtin id) = pure (.type "method_descriptor") ∧ MtR X id r ∧
  ∀ (F : Fx) (I H : Hp) (σ : St) (s : S) (vs : List V) (Q : VK), Rel X.K F I H σ s → DtAll X.K I vs ds → (∀ w I' H', Same I I' → Rel X.K (F.push w t) I' H' σ s → Q w H') → r (.str a) vs H Q
theorem dt_strs {K : PySem.W.Frag} {I : Hp} : ∀ ys : List Str, DtAll K I (ys.map V.str) (ys.map PyData.str)
  | [] => .nil
  | y :: ys => .cons (.str y) (dt_strs ys)
theorem meth_ok {m a : Str} {ds : List D} {t : T} (h : methS m a ds = some t) : MethR X m a ds t := by
  unfold methS at h
  by_cases e : m = "split"
  · subst e
    rw [if_pos rfl] at h
    split at h
    · rename_i b
      split at h
      · rename_i hc
        cases h
        rw [Bool.and_eq_true] at hc
        refine ⟨_, _, PySem.F.slot_str_split, PySem.F.type_str_split, mt_split, fun F I H σ s vs Q Rl hd q => ?_⟩
        obtain ⟨v, rfl, d1⟩ := dt1 hd
        cases d1
        refine ⟨a, b, rfl, rfl, by simpa using hc.1, of_decide_eq_true hc.2, fun p hp => ?_⟩
        have := push_lst Rl hp (dt_strs (K := X.K) (I := I) (Txt.split a b))
        rw [List.map_map] at this
        exact q _ _ _ (Same.refl I) this
      · cases h
    · cases h
  rw [if_neg e] at h
  clear e
  by_cases e : m = "join"
  · subst e
    rw [if_pos rfl] at h
    split at h
    · rename_i xs
      cases hx : strsD xs with
      | none => rw [hx] at h; cases h
      | some ys =>
        rw [hx] at h
        simp only at h
        split at h
        · rename_i hc
          cases h
          refine ⟨_, _, PySem.F.slot_str_join, PySem.F.type_str_join, mt_join, fun F I H σ s vs Q Rl hd q => ?_⟩
          obtain ⟨v, rfl, d1⟩ := dt1 hd
          cases d1 with | lst h1 h2 =>
          have ev := strs_of h2 hx
          subst ev
          exact ⟨a, _, ys, rfl, rfl, .inl (Rl.le.seq h1), hc, q _ I H (Same.refl I) (Rl.pushD (.str _))⟩
        · cases h
    · cases h
  rw [if_neg e] at h
  clear e
  by_cases e : m = "strip"
  · subst e
    rw [if_pos rfl] at h
    split at h
    · rename_i b
      split at h
      · rename_i hc
        cases h
        refine ⟨_, _, PySem.F.slot_str_strip, PySem.F.type_str_strip, mt_stripChars, fun F I H σ s vs Q Rl hd q => ?_⟩
        obtain ⟨v, rfl, d1⟩ := dt1 hd
        cases d1
        exact ⟨a, b, rfl, rfl, hc, q _ I H (Same.refl I) (Rl.pushD (.str _))⟩
      · cases h
    · cases h
  rw [if_neg e] at h
  cases h
theorem few_of {args : List Expr} {cp : Pos} {env : Env} (hs : args.all noStar = true) (hz : args.length < 28) : ((backTo cp (starEach args env)).all (fun x => !x.1) && (backToKw cp (keywordEach [] env)).all (fun x => x.1.isSome) && decide (args.length + ([] : List Keyword).length + (if ([] : List Keyword).isEmpty then 0 else 1) < 30)) = true := by
  have h1 : (backTo cp (starEach args env)).all (fun x => !x.1) = true := by
    have := noStars_any (env := env) (pos := cp) hs
    rw [List.all_eq_not_any_not]
    simpa using this
  rw [h1]
  have h2 : (backToKw cp (keywordEach [] env)).all (fun x => x.1.isSome) = true := rfl
  rw [h2, Bool.true_and, Bool.true_and]
  exact decide_eq_true (by simp; omega)
theorem snd_meth (sn : ∀ e, SndE X e (R.e e)) {o : Expr} {m : Str} {ap cp : Pos} {args : List Expr} : SndE X (.Call (.Attribute o m ap) args [] cp) (methE R o m ap args cp) := by
  unfold methE
  refine sndE_if (fun hc => ?_) fun _ => sndE_fail
  simp only [Bool.and_eq_true] at hc
  obtain ⟨⟨⟨⟨c1, c2⟩, c3⟩, c4⟩, c5⟩ := hc
  intro s t s' hm F I H σ Q Rl qq
  obtain ⟨d, s1, h1, h2⟩ := bnd_ok hm
  cases d <;> try (cases h2; done)
  rename_i a
  obtain ⟨ds, s2, h3, h4⟩ := bnd_ok h2
  obtain ⟨e, rfl⟩ := lift_ok h4
  obtain ⟨id, r, k1, k2, k3, k4⟩ := meth_ok (X := X) e
  cases args with
  | nil => cases c5
  | cons x xs =>
    have c2' := c2
    rw [List.all_cons, Bool.and_eq_true] at c2'
    refine ofPE (pe_bm PySem.F.plainAttrs_str k1 k2 k3 (pe_w o) (pa_w (x :: xs)) (base_of c1 _ _ _) (few_of c2 (of_decide_eq_true c4)) c3 (star_cons c2'.1 xs X.env) (noStars_any c2'.2)) (snd_dE sn o s _ _ h1 F I H σ _ Rl fun v I1 H1 i1 R1 d1 => ?_)
    cases d1
    refine ⟨rfl, snd_evd sn (x :: xs) c2 s1 ds _ h3 F I1 H1 σ _ R1 fun vs I2 H2 i2 R2 d2 => ?_⟩
    exact k4 F I2 H2 σ _ vs Q R2 d2 fun w I3 H3 i3 R3 => qq w I3 H3 (i1.trans (i2.trans i3)) R3
theorem snd_stepE {RC : Cf → EvK} (cx : CtxOk k C X) (sn : Snd C X (RC C)) (snb : ∀ (C' : Cf) (X' : Cx), CtxOk k C' X' → Snd C' X' (RC C')) (e : Expr) : SndE X e (stepE RC C e) := by
  unfold stepE
  split
  · rename_i i _ _
    intro s d s' hm F I H σ Q Rl q
    obtain ⟨rfl, rfl⟩ := ret_ok hm
    exact ofPE pe_int (q _ I H (Same.refl I) (Rl.pushD (.int i)))
  · rename_i i _ _
    intro s d s' hm F I H σ Q Rl q
    obtain ⟨rfl, rfl⟩ := ret_ok hm
    exact ofPE pe_str (q _ I H (Same.refl I) (Rl.pushD (.str i)))
  · rename_i i _ _
    intro s d s' hm F I H σ Q Rl q
    obtain ⟨rfl, rfl⟩ := ret_ok hm
    exact ofPE pe_bl (q _ I H (Same.refl I) (Rl.pushD (.bl i)))
  · intro s d s' hm F I H σ Q Rl q
    obtain ⟨rfl, rfl⟩ := ret_ok hm
    exact ofPE pe_non (q _ I H (Same.refl I) (Rl.pushD .non))
  · exact sndE_of (snd_name cx)
  · exact snd_rep cx sn.e
  · exact snd_bin cx sn
  · exact snd_notV sn.e
  · exact snd_neg sn.e
  · exact snd_andV sn.e _
  · exact snd_orV sn.e _
  · exact snd_cmpE cx sn
  · exact snd_ifE sn
  · exact sndE_if (fun h => snd_tuple sn.e h) fun _ => sndE_fail
  · exact sndE_if (fun h => sndE_if (fun _ => snd_list sn.e h) fun _ => snd_listD sn.e h) fun _ => sndE_fail
  · refine sndE_if (fun h => ?_) fun _ => sndE_fail
    rw [Bool.and_eq_true, Bool.and_eq_true] at h
    exact snd_comp cx sn h.1.1 h.1.2 h.2 (fun X' c => snb _ X' c)
  · rename_i a lo hi p2 pos
    cases a with
    | Name x p =>
      cases hj : slotOf C x with
      | none => simp only [hj]; exact snd_slice cx sn
      | some j => simp only [hj]; exact snd_sliceN cx sn hj
    | _ => exact snd_slice cx sn
  · rename_i a i pos _
    refine sndE_if (fun h => ?_) fun _ => sndE_fail
    refine snd_sub cx ?_
    cases a with
    | Name x p =>
      simp only
      cases hj : slotOf C x with
      | none =>
        simp only
        cases hd : C.gd x with
        | none => exact snd_ix cx sn.e h
        | some kvs => exact sndE_if (fun hg => snd_gd cx sn.e hg hd h) fun _ => sndE_fail
      | some j => exact snd_ixN cx sn.e hj h
    | _ => exact snd_ix cx sn.e h
  · rename_i x p args q
    refine sndE_if (fun hb => sndE_if (fun hs => ?_) fun _ => sndE_fail) fun hb => sndE_if (fun hg => ?_) fun _ => sndE_fail
    · exact snd_blt cx sn hb hs
    · cases hx : C.ex.made x with
      | some y => exact snd_exE cx sn.e hg (by rw [hx])
      | none =>
        cases hf : C.fns x args.length [] with
        | none => exact sndE_fail
        | some fn => exact snd_callE cx sn.e hg hf
  · rename_i x p kw kws q
    refine sndE_if (fun hb => sndE_fail) fun hb => sndE_if (fun hg => ?_) fun _ => sndE_fail
    cases hx : C.ex.made x with
    | some y => exact snd_exK cx sn.e hg (by rw [hx])
    | none =>
    cases hf : C.fns x 0 ((kw :: kws).filterMap (·.arg)) with
    | none => exact sndE_fail
    | some fn =>
      refine sndE_if (fun h => ?_) fun _ => sndE_fail
      rw [Bool.and_eq_true] at h
      exact snd_callK cx sn.e hg (by simp) hf h.1
  · exact sndE_if (fun h => snd_att cx sn.e fun env w => base_of h _ env w) fun _ => sndE_fail
  · exact snd_meth sn.e
  · exact sndE_fail
theorem snd_stepT {RC : Cf → EvK} (cx : CtxOk k C X) (sn : Snd C X (RC C)) (e : Expr) : SndT X e (stepT RC C e) := by
  cases e with
  | BoolOp op es pos =>
    cases op with
    | And => exact sndT_W (snd_andT sn.t es)
    | Or => exact sndT_W (snd_orT sn.t es)
  | UnaryOp op a pos =>
    cases op with
    | Not => exact snd_notT sn.t
    | _ => exact snd_truth sn.e fun _ => rfl
  | Compare a ops bs pos => exact snd_cmpT cx sn
  | IfExp a b c pos => exact sndT_fail
  | _ => exact snd_truth sn.e fun _ => rfl
theorem snd_EV : ∀ (n : Nat) (C : Cf) (X : Cx), CtxOk k C X → Snd C X (EV n C)
  | 0, C, X, _ => ⟨fun _ => sndE_fail, fun _ => sndT_fail, (fun _ _ _ _ _ h => by cases h), (fun _ _ _ _ h => by cases h)⟩
  | n + 1, C, X, cx => by
    have ih := snd_EV n C X cx
    exact ⟨snd_stepE cx ih (snd_EV n), snd_stepT cx ih, snd_stepI cx ih, snd_stepA cx ih⟩
end
end Nw
end

set_option Elab.async false
set_option linter.all false
set_option maxRecDepth 100000
set_option maxHeartbeats 4000000
noncomputable section
namespace Nw
open PySem L2 PySem.Spec

section
variable {X : Cx} {k : Nat} {C : Cf}
def Cont (K : PySem.W.Frag) (F : Fx) (I : Hp) (s' : S) (D : Ends) : Fl → Prop
  | .nx => ∀ I' H' σ', Same I I' → Rel K F I' H' σ' s' → D.nx σ' H'
  | .rt t => ∀ v I' H' σ', Same I I' → Rel K (F.push v t) I' H' σ' s' → D.rt v H'
  | .brk => ∀ I' H' σ', Same I I' → Rel K F I' H' σ' s' → D.bk σ' H'
  | .cnt => ∀ I' H' σ', Same I I' → Rel K F I' H' σ' s' → D.ct σ' H'
theorem Cont.mono {K : PySem.W.Frag} {F : Fx} {I I2 : Hp} {s' : S} {D : Ends} {fl : Fl} (i : Same I I2) (h : Cont K F I s' D fl) : Cont K F I2 s' D fl := by
  cases fl with
  | nx => exact fun I' H' σ' a b => h I' H' σ' (i.trans a) b
  | rt d => exact fun v I' H' σ' a b => h v I' H' σ' (i.trans a) b
  | brk => exact fun I' H' σ' a b => h I' H' σ' (i.trans a) b
  | cnt => exact fun I' H' σ' a b => h I' H' σ' (i.trans a) b
def SndS (X : Cx) (st : Stmt) (m : S → Res Fl) : Prop := ∀ s fl s', m s = .ok fl s' → ∀ (F : Fx) (I H : Hp) (σ : St) (D : Ends), Rel X.K F I H σ s → Cont X.K F I s' D fl → EvS X st D σ H
def SndSs (X : Cx) (st : List Stmt) (m : S → Res Fl) : Prop := ∀ s fl s', m s = .ok fl s' → ∀ (F : Fx) (I H : Hp) (σ : St) (D : Ends), Rel X.K F I H σ s → Cont X.K F I s' D fl → EvSs X st D σ H
theorem sndS_fail {st : Stmt} : SndS X st fail := fun _ _ _ h => by cases h
theorem snd_seq {f : Stmt → S → Res Fl} (hf : ∀ st, SndS X st (f st)) : ∀ sts : List Stmt, SndSs X sts (seqS f sts)
  | [] => fun s fl s' hm F I H σ D Rl q => by
    obtain ⟨rfl, rfl⟩ := ret_ok (show ret Fl.nx s = .ok fl s' from hm)
    exact ofPSs pss_nil (q I H σ (Same.refl I) Rl)
  | st :: r => fun s fl s' hm F I H σ D Rl q => by
    obtain ⟨fl1, s1, h1, h2⟩ := bnd_ok (show bnd (f st) (fun fl => match fl with | .nx => seqS f r | .rt d => ret (.rt d) | .brk => ret .brk | .cnt => ret .cnt) s = .ok fl s' from hm)
    refine ofPSs (pss_cons (ps_w st) (pss_w r)) ?_
    refine hf st s fl1 s1 h1 F I H σ _ Rl ?_
    cases fl1 with
    | nx => exact fun I1 H1 σ1 i1 R1 => snd_seq hf r s1 fl s' h2 F I1 H1 σ1 D R1 (q.mono i1)
    | rt d => obtain ⟨rfl, rfl⟩ := ret_ok h2; exact q
    | brk => obtain ⟨rfl, rfl⟩ := ret_ok h2; exact q
    | cnt => obtain ⟨rfl, rfl⟩ := ret_ok h2; exact q
theorem noSwap {e : Expr} (h : isComp e = false) (t : Option Expr) (l : Nat) (env : Env) : swapsWith e t l env = pure false := by
  cases e <;> first | rfl | cases h
theorem snd_if {R : EvK} {f : Stmt → S → Res Fl} (sn : Snd C X R) (hf : ∀ st, SndS X st (f st)) {c : Expr} {a b : List Stmt} {pos : Pos} : SndS X (.If c a b pos) (bnd (R.t c) fun k => if k then seqS f a else seqS f b) := by
  intro s fl s' hm F I H σ D Rl q
  obtain ⟨kb, s1, h1, h2⟩ := bnd_ok hm
  refine ofPS (ps_if (pt_w c) (pss_w a) (pss_w b)) (sn.t c s _ _ h1 F I H σ _ Rl fun I1 H1 i1 R1 => ?_)
  cases kb with
  | true =>
    rw [if_pos rfl] at h2 ⊢
    exact snd_seq hf a s1 fl s' h2 F I1 H1 σ D R1 (q.mono i1)
  | false =>
    rw [if_neg Bool.false_ne_true] at h2 ⊢
    exact snd_seq hf b s1 fl s' h2 F I1 H1 σ D R1 (q.mono i1)
theorem snd_for {R : EvK} {f : Stmt → S → Res Fl} (cx : CtxOk k C X) (hp : PassesOwn (model X.prog X.w) X.A X.env X.xe) (sn : Snd C X R) (hf : ∀ st, SndS X st (f st)) {tg it : Expr} {body : List Stmt} {pos : Pos} (hs : notSet it = true) :
    SndS X (.For tg it body [] pos) (bnd (R.it tg it) fun ds => forL (R.asg tg) (seqS f body) ds) := by
  intro s fl s' hm F I H σ D Rl q
  obtain ⟨ds, s1, h1, h2⟩ := bnd_ok hm
  refine ofPS (ps_for hp cx.calm (pi_w tg it) (pg_w tg) (pss_w body) (fold_of hs X.env)) (sn.it tg it s ds s1 h1 F I H σ _ Rl fun J I1 H1 i1 R1 wk => ?_)
  refine ⟨fun i m σc Hc => m = ds.length - i ∧ i ≤ ds.length ∧ ∃ (Ic : Hp) (sc : S), Same I1 Ic ∧ Rel X.K F Ic Hc σc sc ∧ forL (R.asg tg) (seqS f body) (ds.drop i) sc = .ok fl s', ⟨ds.length, by simp, Nat.zero_le _, I1, s1, Same.refl I1, R1, by rw [List.drop_zero]; exact h2⟩, ?_⟩
  rintro i m σc Hc ⟨rfl, hi, Ic, sc, i2, Rc, hc⟩
  obtain ⟨wgo, wstop⟩ := wk i Ic Hc i2 Rc.le
  by_cases hil : i < ds.length
  · have hdd : ds.drop i = ds[i] :: ds.drop (i + 1) := List.drop_eq_getElem_cons hil
    rw [hdd] at hc
    obtain ⟨⟨⟩, sa, ha, hc⟩ := bnd_ok (show bnd (R.asg tg ds[i]) (fun _ => bnd (seqS f body) fun fl => match fl with | .nx => forL (R.asg tg) (seqS f body) (ds.drop (i + 1)) | .cnt => forL (R.asg tg) (seqS f body) (ds.drop (i + 1)) | .brk => ret .nx | .rt d => ret (.rt d)) sc = .ok fl s' from hc)
    obtain ⟨fb, sb, hb1, hb2⟩ := bnd_ok hc
    obtain ⟨go, yld⟩ := wgo ds[i] (List.getElem?_eq_getElem hil)
    refine .inr ⟨go, _, fun σ' H' hN => ⟨ds.length - (i + 1), by omega, rfl, hil, hN⟩, fun x H' y => ?_⟩
    obtain ⟨Iy, i3, Ry, dx⟩ : ∃ Iy, Same Ic Iy ∧ Rel X.K F Iy H' σc sc ∧ Dt X.K Iy x ds[i] := by
      rcases yld x H' y with ⟨rfl, dx⟩ | ⟨T, o, hT, rfl, dx⟩
      · exact ⟨Ic, Same.refl Ic, Rc, dx⟩
      · exact ⟨_, same_new (Rc.le.free hT) o, Rc.lay hT, dx⟩
    refine sn.asg tg ds[i] sc sa ha F Iy H' σc x _ Ry dx fun I3 H3 σ3 j3 R3 l3 _ => ?_
    refine snd_seq hf body sa fb sb hb1 F I3 H3 σ3 _ R3 ?_
    have i13 : Same I1 I3 := i2.trans (i3.trans j3)
    cases fb with
    | nx => exact fun I4 H4 σ4 j4 R4 => ⟨I4, sb, i13.trans j4, R4, hb2⟩
    | cnt => exact fun I4 H4 σ4 j4 R4 => ⟨I4, sb, i13.trans j4, R4, hb2⟩
    | brk =>
      obtain ⟨rfl, rfl⟩ := ret_ok hb2
      exact fun I4 H4 σ4 j4 R4 => q I4 H4 σ4 (i1.trans (i13.trans j4)) R4
    | rt d =>
      obtain ⟨rfl, rfl⟩ := ret_ok hb2
      exact fun v I4 H4 σ4 j4 R4 => q v I4 H4 σ4 (i1.trans (i13.trans j4)) R4
  · have ei : i = ds.length := by omega
    subst ei
    rw [List.drop_length] at hc
    cases (show Res.ok Fl.nx sc = Res.ok fl s' from hc)
    exact .inl ⟨wstop (Nat.le_refl _), q Ic Hc σc (i1.trans i2) Rc⟩
theorem snd_while {R : EvK} {f : Stmt → S → Res Fl} (hp : PassesOwn (model X.prog X.w) X.A X.env X.xe) (sn : Snd C X R) (hf : ∀ st, SndS X st (f st)) {c : Expr} {body : List Stmt} {pos : Pos} (wf : Nat) : SndS X (.While c body [] pos) (whileL (R.t c) (seqS f body) wf) := by
  intro s fl s' hm F I H σ D Rl q
  refine ofPS (ps_while hp (pt_w c) (pss_w body)) ?_
  refine ⟨fun m σc Hc => ∃ (Ic : Hp) (sc : S), Same I Ic ∧ Rel X.K F Ic Hc σc sc ∧ whileL (R.t c) (seqS f body) m sc = .ok fl s', ⟨wf, I, s, Same.refl I, Rl, hm⟩, ?_⟩
  rintro m σc Hc ⟨Ic, sc, i2, Rc, hc⟩
  cases m with
  | zero => cases hc
  | succ m =>
    obtain ⟨kb, s1, h1, h2⟩ := bnd_ok (show bnd (R.t c) (fun k => if k then bnd (seqS f body) fun fl => match fl with | .nx => whileL (R.t c) (seqS f body) m | .cnt => whileL (R.t c) (seqS f body) m | .brk => ret .nx | .rt d => ret (.rt d) else ret .nx) sc = .ok fl s' from hc)
    refine sn.t c sc kb s1 h1 F Ic Hc σc _ Rc fun I1 H1 i1 R1 => ?_
    cases kb with
    | false =>
      rw [if_neg Bool.false_ne_true] at h2 ⊢
      obtain ⟨rfl, rfl⟩ := ret_ok h2
      exact q I1 H1 σc (i2.trans i1) R1
    | true =>
      rw [if_pos rfl] at h2 ⊢
      obtain ⟨fb, sb, hb1, hb2⟩ := bnd_ok h2
      refine ⟨_, fun σ' H' hN => ⟨m, Nat.lt_succ_self m, hN⟩, ?_⟩
      refine snd_seq hf body s1 fb sb hb1 F I1 H1 σc _ R1 ?_
      cases fb with
      | nx => exact fun I4 H4 σ4 j4 R4 => ⟨I4, sb, i2.trans (i1.trans j4), R4, hb2⟩
      | cnt => exact fun I4 H4 σ4 j4 R4 => ⟨I4, sb, i2.trans (i1.trans j4), R4, hb2⟩
      | brk =>
        obtain ⟨rfl, rfl⟩ := ret_ok hb2
        exact fun I4 H4 σ4 j4 R4 => q I4 H4 σ4 (i2.trans (i1.trans j4)) R4
      | rt d =>
        obtain ⟨rfl, rfl⟩ := ret_ok hb2
        exact fun v I4 H4 σ4 j4 R4 => q v I4 H4 σ4 (i2.trans (i1.trans j4)) R4
/-- return -/
theorem snd_ret {R : EvK} (sn : Snd C X R) {e : Expr} {pos : Pos} : SndS X (.Return (some e) pos) (bnd (R.e e) fun d => ret (.rt d)) := by
  intro s fl s' hm F I H σ D Rl q
  obtain ⟨d, s1, h1, h2⟩ := bnd_ok hm
  obtain ⟨rfl, rfl⟩ := ret_ok h2
  exact ofPS (ps_ret (pe_w e)) (sn.e e s _ _ h1 F I H σ _ Rl fun v I1 H1 i1 R1 => q v I1 H1 σ i1 R1)
theorem snd_retO (cx : CtxOk k C X) {x : Str} {p pos : Pos} {i : Nat} (hi : slotOf C x = some i) : SndS X (.Return (some (.Name x p)) pos) (bnd (outS i) fun t => ret (.rt t)) := by
  intro s fl s' hm F I H σ D Rl q
  obtain ⟨t, s1, h1, h2⟩ := bnd_ok hm
  obtain ⟨rfl, rfl⟩ := ret_ok h2
  unfold outS at h1
  split at h1
  · rename_i t' e
    cases h1
    obtain ⟨v, k1, k2⟩ := Rl.outS e
    exact ofPS (ps_ret (pe_slot cx hi)) ⟨_, k1, q _ I H σ (Same.refl I) k2⟩
  · cases h1
/-- x = e -/
theorem snd_asgN (cx : CtxOk k C X) {R : EvK} (sn : Snd C X R) {x : Str} {p pos : Pos} {e : Expr} {i : Nat} (hi : locOf C x = some i) (hc : swapsWith e (some (.Name x p)) pos.line X.env = pure false) : SndS X (.Assign [.Name x p] e pos) (bnd (R.e e) fun t => bnd (setT i t) fun _ => ret .nx) := by
  intro s fl s' hm F I H σ D Rl q
  obtain ⟨d, s1, h1, h2⟩ := bnd_ok hm
  obtain ⟨⟨⟩, s2, h3, h4⟩ := bnd_ok h2
  obtain ⟨rfl, rfl⟩ := ret_ok h4
  cases (show Res.ok () { s1 with g := s1.g.set i (.v d) } = Res.ok () s' from h3)
  obtain ⟨l1, l2, l3⟩ := locOf_ok cx hi
  refine ofPS (ps_set (by rw [cx.N]; exact cx.nd) l1 l2 (pe_w e) hc l3) (sn.e e s _ _ h1 F I H σ _ Rl fun v I1 H1 i1 R1 => ?_)
  exact q I1 H1 _ i1 (R1.setT i)
/-- x = [..], the name a local: stored within the comprehension's frame -/
theorem snd_asgC (cx : CtxOk k C X) {RC : Cf → EvK} (sn : Snd C X (RC C)) (snb : ∀ (C' : Cf) (X' : Cx), CtxOk k C' X' → Snd C' X' (RC C')) {x : Str} {p pos spos : Pos} {elt : Expr} {gs : List Comprehension} {scope : Scope} {i : Nat} (hi : locOf C x = some i)
    (hx : C.sc.names.lookup x = some .local) (hl : (p.line == pos.line) = true) (ha : (scope.names.any fun (n, k) => n == x && (k == .local || k == .cell)) = false) :
    SndS X (.Assign [.Name x p] (.ListComp elt gs scope pos) spos) (bnd (stepE RC C (.ListComp elt gs scope pos)) fun t => bnd (setT i t) fun _ => ret .nx) := by
  intro s fl s' hm F I H σ D Rl q
  obtain ⟨d, s1, h1, h2⟩ := bnd_ok hm
  obtain ⟨⟨⟩, s2, h3, h4⟩ := bnd_ok h2
  obtain ⟨rfl, rfl⟩ := ret_ok h4
  cases (show Res.ok () { s1 with g := s1.g.set i (.v d) } = Res.ok () s' from h3)
  obtain ⟨l1, l2, l3⟩ := locOf_ok cx hi
  match gs, h1 with
  | [], h1 => cases h1
  | ⟨_, _, _, .negSucc _⟩ :: _ :: _, h1 => cases h1
  | ⟨_, _, _, .ofNat 0⟩ :: _ :: _, h1 => cases h1
  | ⟨_, _, _, .ofNat (_ + 1)⟩ :: _ :: _, h1 => cases h1
  | [⟨tg, iter, ifs, .negSucc _⟩], h1 => cases h1
  | [⟨tg, iter, ifs, .ofNat (_ + 1)⟩], h1 => cases h1
  | [⟨tg, iter, ifs, .ofNat 0⟩], h1 =>
    have h1' : (if (notSet iter && blkC C.N C.sc scope (ownOf C scope) && tgIn (blkCf C scope) ((ownOf C scope).map (·.2)) 6 tg) = true then compM RC C elt tg iter ifs scope else fail) s = .ok d s1 := h1
    by_cases hb : (notSet iter && blkC C.N C.sc scope (ownOf C scope) && tgIn (blkCf C scope) ((ownOf C scope).map (·.2)) 6 tg) = true
    · rw [if_pos hb] at h1'
      rw [Bool.and_eq_true, Bool.and_eq_true] at hb
      intro pins sh inv
      refine (ps_setLc cx.calm (by rw [cx.N]; exact cx.nd) l1 (by rw [cx.sc]; exact hx) (sw_true (by rw [cx.sc]; exact cx.kind) (by rw [cx.sc]; exact hx) hl ha) (pi_w tg iter) (blkX cx hb.1.2) gB_ok tB_ok eB_ok (fold_of hb.1.1 X.env)).run pins sh σ H D inv ?_
      refine comp_reading cx sn hb.1.2 hb.2 (fun X' c => snb _ X' c) h1' Rl (by rw [inv.len, cx.N]) fun a I1 H1 i1 R1 => ?_
      exact q I1 H1 _ i1 (R1.setT i)
    · rw [if_neg hb] at h1'
      cases h1'
theorem swap_cell (cx : CtxOk k C X) {x : Str} {p pos : Pos} {elt : Expr} {gs : List Comprehension} {scope : Scope} {l : Nat} (hx : C.sc.names.lookup x = some .cell) : swapsWith (.ListComp elt gs scope pos) (some (.Name x p)) l X.env = pure false := by
  have e1 : X.env.kindOf x = some .cell := by unfold Env.kindOf; rw [cx.sc]; exact hx
  have e2 : (some NameKind.cell == some NameKind.local) = false := rfl
  unfold swapsWith
  simp only [e1, e2, Bool.and_false, Bool.false_and]
/-- another target -/
theorem snd_asgT1 {R : EvK} (sn : Snd C X R) {tg e : Expr} {pos : Pos} (hc : isComp e = false) (hst : noStar tg = true) (hw : swappedStores [tg] e X.env = pure none) : SndS X (.Assign [tg] e pos) (bnd (dE R e) fun d => bnd (R.asg tg d) fun _ => ret .nx) := by
  intro s fl s' hm F I H σ D Rl q
  obtain ⟨d, s1, h1, h2⟩ := bnd_ok hm
  obtain ⟨⟨⟩, s2, h3, h4⟩ := bnd_ok h2
  obtain ⟨rfl, rfl⟩ := ret_ok h4
  have h1' : (assignEach [tg] X.env).map (·.2) = [assign tg X.env] := by cases tg <;> first | rfl | cases hst
  refine ofPS (ps_asg (pe_w e) (pg_w tg) (noSwap hc _ _ _) hw h1') (snd_dE sn.e e s _ _ h1 F I H σ _ Rl fun v I1 H1 i1 R1 d1 => ?_)
  exact sn.asg tg d s1 _ h3 F I1 H1 σ v _ R1 d1 fun I2 H2 σ2 i2 R2 _ _ => q I2 H2 σ2 (i1.trans i2) R2
theorem filterMap_full {α β : Type} {f : α → Option β} : ∀ {l : List α}, (l.filterMap f).length = l.length → ∀ x ∈ l, (f x).isSome = true
  | [], _, x, hx => by cases hx
  | a :: l, h, x, hx => by
    rw [List.filterMap_cons] at h
    cases q : f a with
    | none =>
      rw [q] at h
      have h1 := List.length_filterMap_le f l
      simp only [List.length_cons] at h
      omega
    | some b =>
      rw [q] at h
      simp only [List.length_cons, Nat.add_right_cancel_iff] at h
      rcases List.mem_cons.mp hx with rfl | hx
      · rw [q]; rfl
      · exact filterMap_full h x hx
theorem swC_none {tg e : Expr} (cx : CtxOk k C X) (h : swC C.sc tg e = some none) : swappedStores [tg] e X.env = pure none := by
  have ek : ∀ id, X.env.kindOf id = C.sc.names.lookup id := fun id => by unfold Env.kindOf; rw [cx.sc]
  unfold swC at h
  split at h
  · rename_i ts k1 p1 vs k2 p2
    split at h
    · split at h
      · split at h <;> cases h
      · split at h <;> cases h
      · cases h
    · rename_i hn
      unfold swappedStores
      simp only [pure_bind]
      split
      · rfl
      split
      · rfl
      rw [if_pos]
      rw [Bool.or_eq_true]
      refine .inl ?_
      rw [bne_iff_ne]
      intro z
      apply hn
      refine List.all_eq_true.mpr fun t ht => ?_
      have q := filterMap_full z t ht
      cases t with
      | Name id pos =>
        simp only [ek] at q
        unfold locNm headLine
        simp only
        split at q
        · assumption
        · cases q
      | _ => cases q
  · rename_i ts k1 p1 e' hne
    unfold swappedStores
    cases e <;> first | rfl | exact absurd rfl (hne _ _ _)
  · unfold swappedStores
    cases e <;> rfl
  · cases h
theorem eraseDups2 {x y : Str} (h : (x == y) = false) : ([x, y] : List Str).eraseDups.length = 2 := by
  have h' : (y == x) = false := by rw [Bool.eq_false_iff] at h ⊢; intro z; exact h (by rw [eq_of_beq z]; exact beq_self_eq_true _)
  simp [List.eraseDups_cons, h']
theorem eraseDups3 {x y z : Str} (h : (x == y) = false) (h2 : (x == z) = false) (h3 : (y == z) = false) : ([x, y, z] : List Str).eraseDups.length = 3 := by
  have sw : ∀ {a b : Str}, (a == b) = false → (b == a) = false := fun {a b} h => by rw [Bool.eq_false_iff] at h ⊢; intro z; exact h (by rw [eq_of_beq z]; exact beq_self_eq_true _)
  simp [List.eraseDups_cons, sw h, sw h2, sw h3]
theorem blockK (cx : CtxOk k C X) : (X.env.blockKind != ScopeKind.function) = false := by
  have : X.env.blockKind = .function := by unfold Env.blockKind; rw [cx.sc, cx.kind]; rfl
  rw [this]; rfl
theorem swC_2 (cx : CtxOk k C X) {x y : Str} {px py pt pt2 : Pos} {k1 k2 : Nat} {a b : Expr} (hx : C.sc.names.lookup x = some .local) (hy : C.sc.names.lookup y = some .local) (hl : (py.line == px.line) = true) (hne : (x == y) = false) (ha : noStar a = true) (hb : noStar b = true)
    (hf : (foldedForSure 8 a && foldedForSure 8 b) = false) (hc : (constantsAlone 8 a && constantsAlone 8 b) = false) : swappedStores [.Tuple [.Name x px, .Name y py] k1 pt] (.Tuple [a, b] k2 pt2) X.env = pure (some [x, y]) := by
  have ex : X.env.kindOf x = some .local := by unfold Env.kindOf; rw [cx.sc]; exact hx
  have ey : X.env.kindOf y = some .local := by unfold Env.kindOf; rw [cx.sc]; exact hy
  have eb := blockK cx
  have ed := eraseDups2 hne
  have e3 : ((Expr.Name x px).pos.line == px.line) = true := beq_self_eq_true _
  unfold swappedStores
  simp only [pure_bind, List.length_cons, List.length_nil, eb, List.any_cons, List.any_nil, List.filterMap_cons, List.filterMap_nil, ex, ey, List.head?_cons, Option.map_some, Option.getD_some, Expr.pos, hl, beq_self_eq_true, ed, List.all_cons, List.all_nil, Bool.and_true, hf, hc, Bool.or_false, Bool.true_or, Bool.not_true, bne_self_eq_false, if_true, if_false, Bool.false_eq_true]
  rw [if_neg]
  rw [Bool.or_eq_true, not_or]
  constructor
  · cases a <;> first | (intro z; cases z; done) | cases ha
  · cases b <;> first | (intro z; cases z; done) | cases hb
theorem swC_3 (cx : CtxOk k C X) {x y z : Str} {px py pz pt pt2 : Pos} {k1 k2 : Nat} {a b c : Expr} (hx : C.sc.names.lookup x = some .local) (hy : C.sc.names.lookup y = some .local) (hz : C.sc.names.lookup z = some .local) (hl : (py.line == px.line) = true) (hl2 : (pz.line == px.line) = true)
    (hne : (x == y) = false) (hne2 : (x == z) = false) (hne3 : (y == z) = false) (ha : noStar a = true) (hb : noStar b = true) (hcs : noStar c = true)
    (hf : (foldedForSure 8 a && (foldedForSure 8 b && foldedForSure 8 c)) = false) (hc : (constantsAlone 8 a && (constantsAlone 8 b && constantsAlone 8 c)) = false) : swappedStores [.Tuple [.Name x px, .Name y py, .Name z pz] k1 pt] (.Tuple [a, b, c] k2 pt2) X.env = pure (some [x, y, z]) := by
  have ex : X.env.kindOf x = some .local := by unfold Env.kindOf; rw [cx.sc]; exact hx
  have ey : X.env.kindOf y = some .local := by unfold Env.kindOf; rw [cx.sc]; exact hy
  have ez : X.env.kindOf z = some .local := by unfold Env.kindOf; rw [cx.sc]; exact hz
  have eb := blockK cx
  have ed := eraseDups3 hne hne2 hne3
  unfold swappedStores
  simp only [pure_bind, List.length_cons, List.length_nil, eb, List.any_cons, List.any_nil, List.filterMap_cons, List.filterMap_nil, ex, ey, ez, List.head?_cons, Option.map_some, Option.getD_some, Expr.pos, hl, hl2, beq_self_eq_true, ed, List.all_cons, List.all_nil, Bool.and_true, hf, hc, Bool.or_false, Bool.or_true, Bool.not_true, bne_self_eq_false, if_true, if_false, Bool.false_eq_true]
  rw [if_neg]
  rw [Bool.or_eq_true, not_or, Bool.or_eq_true, not_or]
  refine ⟨?_, ?_, ?_⟩
  · cases a <;> first | (intro z; cases z; done) | cases ha
  · cases b <;> first | (intro z; cases z; done) | cases hb
  · cases c <;> first | (intro z; cases z; done) | cases hcs
/-- a, b = x, y and a, b, c = x, y, z: stored from the right -/
theorem setNm_2 {x y : Str} {d e : T} {s s' : S} (h : setNm C [x, y] [d, e] s = .ok () s') : ∃ i j, locOf C x = some i ∧ locOf C y = some j ∧ s' = { s with g := (s.g.set i (.v d)).set j (.v e) } := by
  obtain ⟨⟨⟩, s1, h1, h2⟩ := bnd_ok (show bnd (match locOf C x with | some i => setT i d | none => fail) (fun _ => setNm C [y] [e]) s = .ok () s' from h)
  obtain ⟨⟨⟩, s2, h3, h4⟩ := bnd_ok (show bnd (match locOf C y with | some i => setT i e | none => fail) (fun _ => setNm C [] []) s1 = .ok () s' from h2)
  obtain ⟨_, rfl⟩ := ret_ok (show ret () s2 = .ok () s' from h4)
  cases hx : locOf C x with
  | none => simp only [hx] at h1; cases h1
  | some i =>
    cases hy : locOf C y with
    | none => simp only [hy] at h3; cases h3
    | some j =>
      simp only [hx] at h1
      simp only [hy] at h3
      cases h1
      cases h3
      exact ⟨i, j, rfl, rfl, rfl⟩
theorem setNm_3 {x y z : Str} {d e f : T} {s s' : S} (h : setNm C [x, y, z] [d, e, f] s = .ok () s') : ∃ i j l, locOf C x = some i ∧ locOf C y = some j ∧ locOf C z = some l ∧ s' = { s with g := ((s.g.set i (.v d)).set j (.v e)).set l (.v f) } := by
  obtain ⟨⟨⟩, s1, h1, h2⟩ := bnd_ok (show bnd (match locOf C x with | some i => setT i d | none => fail) (fun _ => setNm C [y, z] [e, f]) s = .ok () s' from h)
  obtain ⟨j, l, h3, h4, h5⟩ := setNm_2 h2
  cases hx : locOf C x with
  | none => simp only [hx] at h1; cases h1
  | some i =>
    simp only [hx] at h1
    cases h1
    exact ⟨i, j, l, rfl, h3, h4, h5⟩
theorem loc_ne (cx : CtxOk k C X) {x y : Str} {i j : Nat} (hx : locOf C x = some i) (hy : locOf C y = some j) (h : (x == y) = false) : i ≠ j := fun e => by
  subst e
  have h1 := (locOf_ok cx hx).1
  have h2 := (locOf_ok cx hy).1
  rw [h1] at h2
  cases h2
  rw [beq_self_eq_true] at h
  cases h
theorem snd_par (cx : CtxOk k C X) {R : EvK} (sn : Snd C X R) {tg : Expr} {es : List Expr} {k2 : Nat} {pt2 pos : Pos} {names : List Str} (hw : swC C.sc tg (.Tuple es k2 pt2) = some (some names)) :
    SndS X (.Assign [tg] (.Tuple es k2 pt2) pos) (bnd (evs R es) fun ds => bnd (setNm C names ds) fun _ => ret .nx) := by
  intro s fl s' hm F I H σ D Rl q
  obtain ⟨ds, s1, h1, h2⟩ := bnd_ok hm
  obtain ⟨⟨⟩, s2, h3, h4⟩ := bnd_ok h2
  obtain ⟨rfl, rfl⟩ := ret_ok h4
  unfold swC at hw
  split at hw
  · rename_i ts k1 p1 vs k2' p2' e
    cases e
    split at hw
    · rename_i hall
      split at hw
      · rename_i x px y py a b
        split at hw
        · rename_i hc
          cases hw
          simp only [Bool.and_eq_true, Bool.not_eq_true'] at hc
          obtain ⟨⟨⟨⟨c1, c2⟩, c3⟩, c4⟩, c5⟩ := hc
          simp only [List.all_cons, List.all_nil, Bool.and_true, Bool.and_eq_true, locNm, headLine, List.head?_cons, Option.map_some, Option.getD_some, Expr.pos, beq_iff_eq] at hall
          obtain ⟨⟨a1, _⟩, a2, a3⟩ := hall
          have hsw := swC_2 (k1 := k1) (k2 := k2) (pt := p1) (pt2 := pt2) cx a1 a2 (beq_iff_eq.mpr a3) c1 c2 c3 c4 c5
          match ds, h3 with
          | [d, e], h3 =>
            obtain ⟨i, j, hi, hj, rfl⟩ := setNm_2 h3
            have li := locOf_ok cx hi
            have lj := locOf_ok cx hj
            refine ofPS (ps_par cx.calm (by rw [cx.N]; exact cx.nd) li.1 lj.1 (loc_ne cx hi hj c1) (by rw [cx.sc]; exact a1) (by rw [cx.sc]; exact a2) (pa_w [a, b]) hsw) ?_
            refine snd_evs sn.e [a, b] (by rw [List.all_cons, List.all_cons, c2, c3]; rfl) s _ _ h1 F I H σ _ Rl fun vs I1 H1 i1 l1 R1 => ?_
            match vs, l1 with
            | [v, u], _ =>
              have hij := loc_ne cx hi hj c1
              have R2 : Rel X.K (F.push v d) I1 H1 (σ.set j (some u)) { s1 with g := s1.g.set j (.v e) } := Rel.setT (F := F.push v d) (by rw [← push_eq, pushes_push]; exact R1) j
              have R3 := R2.setT i
              rw [List.set_comm _ _ hij.symm] at R3
              have eg : ({ s1 with g := s1.g.set j (Sl.v e) } : S).g.set i (.v d) = (s1.g.set i (.v d)).set j (.v e) := List.set_comm _ _ hij.symm
              rw [eg] at R3
              exact ⟨v, u, rfl, q I1 H1 _ i1 R3⟩
          | [], h3 => cases h3
          | [d], h3 =>
            obtain ⟨⟨⟩, s3, _, h5⟩ := bnd_ok (show bnd _ (fun _ => setNm C [y] []) s1 = .ok () _ from h3)
            cases h5
          | _ :: _ :: _ :: _, h3 =>
            obtain ⟨⟨⟩, s3, _, h5⟩ := bnd_ok (show bnd _ (fun _ => setNm C [y] (_ :: _ :: _)) s1 = .ok () _ from h3)
            obtain ⟨⟨⟩, s4, _, h6⟩ := bnd_ok (show bnd _ (fun _ => setNm C [] (_ :: _)) s3 = .ok () _ from h5)
            cases h6
        · cases hw
      · rename_i x px y py z pz a b c
        split at hw
        · rename_i hc
          cases hw
          simp only [Bool.and_eq_true, Bool.not_eq_true'] at hc
          obtain ⟨⟨⟨⟨⟨⟨⟨c1, c2⟩, c3⟩, c4⟩, c5⟩, c6⟩, c7⟩, c8⟩ := hc
          simp only [List.all_cons, List.all_nil, Bool.and_true, Bool.and_eq_true, locNm, headLine, List.head?_cons, Option.map_some, Option.getD_some, Expr.pos, beq_iff_eq] at hall
          obtain ⟨⟨a1, _⟩, ⟨a2, a3⟩, a4, a5⟩ := hall
          have hsw := swC_3 (k1 := k1) (k2 := k2) (pt := p1) (pt2 := pt2) cx a1 a2 a4 (beq_iff_eq.mpr a3) (beq_iff_eq.mpr a5) c1 c2 c3 c4 c5 c6 c7 c8
          match ds, h3 with
          | [d, e, f], h3 =>
            obtain ⟨i, j, l, hi, hj, hl, rfl⟩ := setNm_3 h3
            have li := locOf_ok cx hi
            have lj := locOf_ok cx hj
            have ll := locOf_ok cx hl
            refine ofPS (ps_par3 cx.calm (by rw [cx.N]; exact cx.nd) li.1 lj.1 ll.1 (loc_ne cx hi hj c1) (loc_ne cx hi hl c2) (loc_ne cx hj hl c3) (by rw [cx.sc]; exact a1) (by rw [cx.sc]; exact a2) (by rw [cx.sc]; exact a4) (pa_w [a, b, c]) hsw) ?_
            refine snd_evs sn.e [a, b, c] (by rw [List.all_cons, List.all_cons, List.all_cons, c4, c5, c6]; rfl) s _ _ h1 F I H σ _ Rl fun vs I1 H1 i1 l1 R1 => ?_
            match vs, l1 with
            | [v, u, w], _ =>
              have hij := loc_ne cx hi hj c1
              have hil := loc_ne cx hi hl c2
              have hjl := loc_ne cx hj hl c3
              have R2 : Rel X.K ((F.push v d).push u e) I1 H1 (σ.set l (some w)) { s1 with g := s1.g.set l (.v f) } := Rel.setT (F := (F.push v d).push u e) (by rw [← push_eq, pushes_push, pushes_push]; exact R1) l
              have R3 : Rel X.K F I1 H1 (((σ.set l (some w)).set j (some u)).set i (some v)) { s1 with g := ((s1.g.set l (.v f)).set j (.v e)).set i (.v d) } := (R2.setT j).setT i
              have e1 : ((σ.set l (some w)).set j (some u)).set i (some v) = ((σ.set i (some v)).set j (some u)).set l (some w) := by
                rw [List.set_comm (l := σ) _ _ hjl.symm, List.set_comm _ _ hil.symm, List.set_comm (l := σ) _ _ hij.symm]
              have e2 : ((s1.g.set l (Sl.v f)).set j (Sl.v e)).set i (Sl.v d) = ((s1.g.set i (.v d)).set j (.v e)).set l (.v f) := by
                rw [List.set_comm (l := s1.g) _ _ hjl.symm, List.set_comm _ _ hil.symm, List.set_comm (l := s1.g) _ _ hij.symm]
              rw [e1, e2] at R3
              exact ⟨v, u, w, rfl, q I1 H1 _ i1 R3⟩
          | [], h3 => cases h3
          | [d], h3 =>
            obtain ⟨⟨⟩, s3, _, h5⟩ := bnd_ok (show bnd _ (fun _ => setNm C [y, z] []) s1 = .ok () _ from h3)
            cases h5
          | [d, e], h3 =>
            obtain ⟨⟨⟩, s3, _, h5⟩ := bnd_ok (show bnd _ (fun _ => setNm C [y, z] [e]) s1 = .ok () _ from h3)
            obtain ⟨⟨⟩, s4, _, h6⟩ := bnd_ok (show bnd _ (fun _ => setNm C [z] []) s3 = .ok () _ from h5)
            cases h6
          | _ :: _ :: _ :: _ :: _, h3 =>
            obtain ⟨⟨⟩, s3, _, h5⟩ := bnd_ok (show bnd _ (fun _ => setNm C [y, z] (_ :: _ :: _ :: _)) s1 = .ok () _ from h3)
            obtain ⟨⟨⟩, s4, _, h6⟩ := bnd_ok (show bnd _ (fun _ => setNm C [z] (_ :: _ :: _)) s3 = .ok () _ from h5)
            obtain ⟨⟨⟩, s5, _, h7⟩ := bnd_ok (show bnd _ (fun _ => setNm C [] (_ :: _)) s4 = .ok () _ from h6)
            cases h7
        · cases hw
      · cases hw
    · cases hw
  · rename_i hne
    exact (hne _ _ _ rfl).elim
  · cases hw
  · cases hw
/-- x op= e -/
theorem snd_aug (cx : CtxOk k C X) {R : EvK} (sn : Snd C X R) {x : Str} {p pos : Pos} {op : Operator} {e : Expr} {i : Nat} (hi : slotOf C x = some i) (hl : locOf C x = some i) :
    SndS X (.AugAssign (.Name x p) op e pos) (bnd (rdS i) fun d => bnd (dE R e) fun d' => bnd (lift (augD op d d')) fun r => bnd (setT i (.d r)) fun _ => ret .nx) := by
  intro s fl s' hm F I H σ D Rl q
  obtain ⟨d, s0, h0, h2⟩ := bnd_ok hm
  obtain ⟨d', s1, h3, h4⟩ := bnd_ok h2
  obtain ⟨r, s2, h5, h6⟩ := bnd_ok h4
  obtain ⟨e5, rfl⟩ := lift_ok h5
  obtain ⟨⟨⟩, s3, h7, h8⟩ := bnd_ok h6
  obtain ⟨rfl, rfl⟩ := ret_ok h8
  cases (show Res.ok () { s2 with g := s2.g.set i (.v (.d r)) } = Res.ok () s' from h7)
  obtain ⟨l1, l2, l3⟩ := locOf_ok cx hl
  obtain ⟨rr, hr, hq⟩ := op2_aug (X := X) e5
  intro pins sh inv
  refine (ps_aug (by rw [cx.N]; exact cx.nd) l1 l2 (pe_w e) (ti := rr) hr l3).run pins sh σ H D inv ?_
  obtain ⟨v, I0, hv, i0, R0, dv⟩ : ∃ v I0, σ[i]? = some (some v) ∧ Same I I0 ∧ Rel X.K F I0 H σ s0 ∧ Dt X.K I0 v d := by
    unfold rdS at h0
    split at h0
    · rename_i d0 e0
      cases h0
      obtain ⟨v, a1⟩ := Rl.val i _ e0
      obtain ⟨fp, a2, _⟩ := Rl.hold (p := .s i) ⟨a1, e0⟩
      cases a2 with | d a2 => exact ⟨v, I, a1, Same.refl I, Rl, a2⟩
    · rename_i t0 _ e0
      split at h0
      · rename_i d0 hf
        cases h0
        obtain ⟨v, a1, R1⟩ := Rl.outS e0
        obtain ⟨I0, k1, k2, k3⟩ := R1.freeze hf
        have R2 := k2.setD i k3
        rw [setSame a1] at R2
        have e2 : ({ s with g := s.g.set i Sl.un } : S).g.set i (.v (.d d)) = s.g.set i (.v (.d d)) := by
          show (s.g.set i Sl.un).set i (.v (.d d)) = _
          rw [List.set_set]
        rw [e2] at R2
        exact ⟨v, I0, a1, k1, R2, k3⟩
      · cases h0
    · cases h0
  refine ⟨v, hv, snd_dE sn.e e s0 _ _ h3 F I0 H σ _ R0 fun u I1 H1 i1 R1 d1 => ?_⟩
  exact hq F I1 H1 σ _ v u _ R1 (.dat (dv.mono i1)) (.dat d1) fun w I2 H2 i2 R2 => q I2 H2 _ (i0.trans (i1.trans i2)) (R2.setT i)
theorem isLst_at {i : Nat} {s s' : S} (hm : isLst i s = .ok () s') {K : PySem.W.Frag} {F : Fx} {I H : Hp} {σ : St} (R : Rel K F I H σ s) : s' = s ∧ ∃ a vs, σ[i]? = some (some (.ref a)) ∧ H a = some (.lst vs) := by
  unfold isLst at hm
  split at hm
  · rename_i ts e
    cases hm
    obtain ⟨v, fp, h1, h2, _⟩ := root_at e R
    cases h2 with | l h2 _ => exact ⟨rfl, _, _, h1, h2⟩
  · cases hm
theorem appD_l {d : D} (t : T) (x : D × T) (h : appD d t = some x) : ∃ ts, t = .l ts := by
  cases t with
  | l ts => exact ⟨ts, rfl⟩
  | _ => cases h
/-- xs.append(e) -/
theorem snd_app (cx : CtxOk k C X) {R : EvK} (sn : Snd C X R) {x : Str} {p ap cp pos : Pos} {a : Expr} {i : Nat} (hi : slotOf C x = some i) (hl : (ap.endLine == cp.line) = true) (ha : noStar a = true) :
    SndS X (.Expr (.Call (.Attribute (.Name x p) "append" ap) [a] [] cp) pos) (bnd (isLst i) fun _ => bnd (dE R a) fun d => bnd (chP (i, []) (appD d)) fun _ => ret .nx) := by
  intro s fl s' hm F I H σ D Rl q
  obtain ⟨⟨⟩, s0, h0, h1⟩ := bnd_ok hm
  obtain ⟨e0, b, vs, hv, k1⟩ := isLst_at h0 Rl
  subst e0
  obtain ⟨d, s1, h2, h3⟩ := bnd_ok h1
  obtain ⟨r, s2, h4, h5⟩ := bnd_ok h3
  obtain ⟨rfl, rfl⟩ := ret_ok h5
  have few : ((backTo cp (starEach [a] X.env)).all (fun x => !x.1) && (backToKw cp (keywordEach [] X.env)).all (fun x => x.1.isSome) && decide ([a].length + ([] : List Keyword).length + (if ([] : List Keyword).isEmpty then 0 else 1) < 30)) = true := by
    rw [star_cons ha]
    rfl
  refine ofPS (ps_expr (pe_bm PySem.F.plainAttrs_list PySem.F.slot_list_append PySem.F.type_list_append mt_append (pe_slot cx hi) (pa_1 ha) rfl few hl (star_cons ha [] X.env) rfl)) ?_
  refine ⟨_, hv, .inl ⟨rfl, vs, SqL.of k1⟩, snd_dE sn.e a _ d s1 h2 F I H σ _ Rl fun u I1 H1 i1 R1 d1 => ?_⟩
  obtain ⟨ts, w, v0, a', ws, fp, g1, g2, g3, g4, g5, g6, g7, g8, g9, g10⟩ := chL_at h4 R1 appD_l
  have g3' : σ[i]? = some (some v0) := g3
  rw [hv] at g3'
  cases g3'
  have g4' : pathV H1 (.ref b) [] = some (.ref a') := g4
  rw [pathV_nil] at g4'
  cases g4'
  have g2' : (if ts.length < sizeLine then some (PyData.none, T.l (ts ++ [.d d])) else none) = some (r, w) := g2
  split at g2'
  · rename_i hz
    cases g2'
    refine ⟨_, ws, u, rfl, rfl, g5, by rw [g8.len]; exact hz, ?_⟩
    exact q I1 _ σ i1 (g10 _ _ (fp ++ []) rfl (g8.append (TRs.one (.d d1))) (by rw [List.append_nil]; exact g9) (fun b hb => by simpa using hb))
  · cases g2'
theorem snd_expr {R : EvK} (sn : Snd C X R) {e : Expr} {pos : Pos} (hs : swapsWith e none pos.line X.env = pure false) : SndS X (.Expr e pos) (bnd (R.e e) fun _ => ret .nx) := by
  intro s fl s' hm F I H σ D Rl q
  obtain ⟨d, s1, h1, h2⟩ := bnd_ok hm
  obtain ⟨rfl, rfl⟩ := ret_ok h2
  exact ofPS (ps_expr (pe_w e) hs) (sn.e e s _ _ h1 F I H σ _ Rl fun v I1 H1 i1 R1 => q I1 H1 σ i1 R1.pop)
theorem sndS_if {st : Stmt} {b : Bool} {m m' : S → Res Fl} (h : b = true → SndS X st m) (h' : b = false → SndS X st m') : SndS X st (if b = true then m else m') := by
  cases b with
  | true => rw [if_pos rfl]; exact h rfl
  | false => rw [if_neg Bool.false_ne_true]; exact h' rfl
end
end Nw
end

set_option Elab.async false
set_option linter.all false
set_option maxRecDepth 100000
set_option maxHeartbeats 4000000
noncomputable section
namespace Nw
open PySem L2 PySem.Spec

section
variable {X : Cx} {k : Nat} {C : Cf}
theorem snd_stepS {RC : Cf → EvK} {f : Stmt → S → Res Fl} (cx : CtxOk k C X) (hp : PassesOwn (model X.prog X.w) X.A X.env X.xe) (sn : Snd C X (step RC C)) (sn0 : Snd C X (RC C)) (snb : ∀ (C' : Cf) (X' : Cx), CtxOk k C' X' → Snd C' X' (RC C')) (hf : ∀ st, SndS X st (f st)) (st : Stmt) :
    SndS X st (stepS (step RC C) f C st) := by
  unfold stepS
  split
  · intro s fl s' hm F I H σ D Rl q
    obtain ⟨rfl, rfl⟩ := ret_ok hm
    exact ofPS ps_pass (q I H σ (Same.refl I) Rl)
  · intro s fl s' hm F I H σ D Rl q
    obtain ⟨rfl, rfl⟩ := ret_ok hm
    exact ofPS ps_break (q I H σ (Same.refl I) Rl)
  · intro s fl s' hm F I H σ D Rl q
    obtain ⟨rfl, rfl⟩ := ret_ok hm
    exact ofPS ps_continue (q I H σ (Same.refl I) Rl)
  · intro s fl s' hm F I H σ D Rl q
    obtain ⟨rfl, rfl⟩ := ret_ok hm
    exact ofPS ps_retN (q _ I H σ (Same.refl I) (Rl.pushD Dt.non))
  · rename_i e pos
    cases e with
    | Name x p =>
      cases hi : slotOf C x with
      | none => simp only [hi]; exact snd_ret sn
      | some i => simp only [hi]; exact snd_retO cx hi
    | _ => exact snd_ret sn
  · exact snd_if sn hf
  · exact sndS_if (fun h => snd_for cx hp sn hf h) fun _ => sndS_fail
  · exact snd_while hp sn hf C.wf
  · rename_i x p e q
    cases hi : locOf C x with
    | none => exact sndS_fail
    | some i =>
      simp only
      refine sndS_if (fun h => ?_) fun h => snd_asgN cx sn hi (noSwap h _ _ _)
      · cases e with
        | ListComp elt gs scope pos =>
          refine sndS_if (fun hc => ?_) fun _ => sndS_fail
          rw [Bool.or_eq_true] at hc
          rcases hc with hc | hc
          · rw [Bool.and_eq_true, Bool.and_eq_true] at hc
            exact snd_asgC cx sn0 snb hi (eq_of_beq hc.1.1) hc.1.2 (by simpa using hc.2)
          · exact snd_asgN cx sn hi (swap_cell cx (eq_of_beq hc))
        | _ => exact sndS_fail
  · rename_i tg e pos hne
    refine sndS_if (fun h => sndS_fail) fun h => ?_
    cases hw : swC C.sc tg e with
    | none => exact sndS_fail
    | some o =>
      cases o with
      | none =>
        have hst : noStar tg = true := by
          cases tg <;> first | rfl | cases hw
        exact snd_asgT1 sn h hst (swC_none cx hw)
      | some names =>
        cases e with
        | Tuple es k2 p2 => exact snd_par cx sn hw
        | _ => exact sndS_fail
  · rename_i x p op e pos
    cases hi : slotOf C x with
    | none => exact sndS_fail
    | some i =>
      cases hl : locOf C x with
      | none => exact sndS_fail
      | some j =>
        simp only
        by_cases e : i = j
        · subst e
          rw [if_pos rfl]
          exact snd_aug cx sn hi hl
        · rw [if_neg e]
          exact sndS_fail
  · intro s fl s' hm F I H σ D Rl q
    obtain ⟨rfl, rfl⟩ := ret_ok hm
    exact ofPS ps_doc (q I H σ (Same.refl I) Rl)
  · rename_i x p m ap a cp pos
    refine sndS_if (fun h => ?_) fun _ => sndS_fail
    rw [Bool.and_eq_true, Bool.and_eq_true] at h
    have hm : m = "append" := of_decide_eq_true h.1.1
    subst hm
    cases hi : slotOf C x with
    | none => exact sndS_fail
    | some i => exact snd_app cx sn hi h.1.2 h.2
  · exact snd_expr sn rfl
  · exact sndS_fail
theorem snd_EX (cx : CtxOk k C X) (hp : PassesOwn (model X.prog X.w) X.A X.env X.xe) : ∀ (n : Nat) (st : Stmt), SndS X st (EX C n st)
  | 0, _ => sndS_fail
  | n + 1, st => snd_stepS cx hp (snd_EV (n + 1) C X cx) (snd_EV n C X cx) (snd_EV n) (snd_EX cx hp n) st
end

/-! ### a def keeps its promise -/
section
variable {K : PySem.W.Frag} {I H : Hp}
theorem argsR_len : ∀ {sg : List Bool} {vs : List V} {ds : List D} {bs : List V}, ArgsR K I sg vs ds bs → vs.length = sg.length
  | _, _, _, _, .nil => rfl
  | _, _, _, _, .dat _ t => congrArg Nat.succ (argsR_len t)
  | _, _, _, _, .bor t => congrArg Nat.succ (argsR_len t)
theorem go_len : ∀ (sg : List Bool) (ds : List D) (m : Nat), (startG sg ds m).length = sg.length
  | [], _, _ => rfl
  | true :: sg, ds, m => congrArg Nat.succ (go_len sg ds (m + 1))
  | false :: sg, [], m => congrArg Nat.succ (go_len sg [] m)
  | false :: sg, _ :: ds, m => congrArg Nat.succ (go_len sg ds m)
/-- what the first slots hold -/
theorem go_at : ∀ {sg : List Bool} {vs : List V} {ds : List D} {bs pre : List V}, ArgsR K I sg vs ds bs → ∀ (i : Nat) (x : Sl), (startG sg ds pre.length)[i]? = some x →
    (∃ d v, x = .v (.d d) ∧ vs[i]? = some v ∧ Dt K I v d) ∨ (∃ m v, x = .bor m ∧ vs[i]? = some v ∧ (pre ++ bs)[m]? = some v)
  | _, _, _, _, pre, .nil, i, x, h => by cases h
  | _, _, _, _, pre, .dat hd t, 0, x, h => by
    cases h
    exact .inl ⟨_, _, rfl, rfl, hd⟩
  | _, _, _, _, pre, .dat hd t, i + 1, x, h => go_at (pre := pre) t i x h
  | _, _, _, _, pre, .bor (v := a) (bs := bs) t, 0, x, h => by
    cases h
    exact .inr ⟨pre.length, a, rfl, rfl, by simp⟩
  | _, _, ds, _, pre, .bor (sg := sg) (v := a) (bs := bs) t, i + 1, x, h => by
    have h' : (startG sg ds (pre ++ [a]).length)[i]? = some x := by
      rw [List.length_append]
      exact h
    rcases go_at (pre := pre ++ [a]) t i x h' with q | ⟨m, b, q1, q2, q3⟩
    · exact .inl q
    · exact .inr ⟨m, b, q1, q2, by rw [List.append_assoc] at q3; exact q3⟩
theorem rel_start {fn : Fn} {vs : List V} {ds : List D} {bs : List V} {cs : List T} {ff : List Addr} {N : List Str} (ha : ArgsR K I fn.sig vs ds bs) (hI : Same I H) (hb : TRs K [] I H bs cs ff) (nd : ff.Nodup) (hf : ∀ a ∈ ff, I a = none) (hN : fn.sig.length ≤ N.length) :
    Rel K ⟨I, H, bs, ff, []⟩ I H (start N vs) (startS N.length fn.sig ds cs) := by
  have hvl := argsR_len ha
  have hgl := go_len fn.sig ds 0
  have at_ : ∀ (i : Nat) (x : Sl), (startS N.length fn.sig ds cs).g[i]? = some x → x = .un ∨ (∃ d v, x = .v (.d d) ∧ (start N vs)[i]? = some (some v) ∧ Dt K I v d) ∨ (∃ m v, x = .bor m ∧ (start N vs)[i]? = some (some v) ∧ bs[m]? = some v) := fun i x h => by
    have h' : (startG fn.sig ds 0 ++ List.replicate (N.length - fn.sig.length) Sl.un)[i]? = some x := h
    by_cases hi : i < fn.sig.length
    · rw [List.getElem?_append_left (by rw [hgl]; exact hi)] at h'
      have hs : ∀ v, vs[i]? = some v → (start N vs)[i]? = some (some v) := fun v hv => by
        unfold L2.start
        rw [List.getElem?_append_left (by rw [List.length_map, hvl]; exact hi), List.getElem?_map, hv]
        rfl
      rcases go_at (pre := []) ha i x h' with ⟨d, v, q1, q2, q3⟩ | ⟨m, a, q1, q2, q3⟩
      · exact .inr (.inl ⟨d, v, q1, hs v q2, q3⟩)
      · exact .inr (.inr ⟨m, a, q1, hs _ q2, q3⟩)
    · rw [List.getElem?_append_right (by rw [hgl]; omega)] at h'
      have := List.mem_of_getElem? h'
      exact .inl (List.eq_of_mem_replicate this)
  obtain ⟨o, o1, o2⟩ := trs_own (F := ⟨I, H, bs, ff, []⟩) (K := K) (I := I) (H := H) hb.ofN nd
  refine ⟨fun a => (o a).map Pl.c, hI, Same.refl I, fun a o _ h => h, fun a o _ h _ => h, fun p v t h => ?_, fun a p h => ?_, fun a p h => ?_, fun i t h => ?_, fun i t h => ?_, fun i n h => ?_, ?_, ?_⟩
  · cases p with
    | s i =>
      obtain ⟨h1, h2⟩ := h
      rcases at_ i _ h2 with q | ⟨d, v', q1, q2, q3⟩ | ⟨m, v', q1, _⟩
      · cases q
      · cases q1
        rw [h1] at q2
        cases q2
        exact ⟨[], .d q3, List.nodup_nil, fun a ha => by cases ha⟩
      · cases q1
    | c n =>
      obtain ⟨h1, h2⟩ := h
      have h2' : (cs.map some)[n]? = some (some t) := h2
      rw [List.getElem?_map] at h2'
      cases e : cs[n]? with
      | none => rw [e] at h2'; cases h2'
      | some t' =>
        rw [e] at h2'
        cases h2'
        obtain ⟨fp, k1, k2, k3⟩ := o1 n v t h1 e
        exact ⟨fp, k1, k2, fun a ha => by rw [k3 a ha]; rfl⟩
    | t k => cases h
  · cases e : o a with
    | none => rw [e] at h; cases h
    | some n => exact ⟨hf a (o2 a n e), .inr (o2 a n e)⟩
  · cases e : o a with
    | none => rw [e] at h; cases h
    | some n =>
      rcases hb.at a (o2 a n e) with ⟨_, q⟩ | ⟨_, q⟩ <;> exact ⟨_, q⟩
  · rcases at_ i _ h with q | ⟨d, v', q1, q2, q3⟩ | ⟨m, v', q1, _⟩
    · cases q
    · exact ⟨v', q2⟩
    · cases q1
  · rcases at_ i _ h with q | ⟨d, v', q1, q2, q3⟩ | ⟨m, v', q1, _⟩
    · cases q
    · cases q1
    · cases q1
  · rcases at_ i _ h with q | ⟨d, v', q1, q2, q3⟩ | ⟨m, v', q1, q2, q3⟩
    · cases q
    · cases q1
    · cases q1; exact ⟨v', q2, q3⟩
  · show (startG fn.sig ds 0 ++ List.replicate (N.length - fn.sig.length) Sl.un).length = (start N vs).length
    unfold L2.start
    rw [List.length_append, List.length_append, List.length_replicate, List.length_replicate, List.length_map, hgl, hvl]
  · show (cs.map some).length = bs.length
    rw [List.length_map, hb.len]
theorem cells_eq : ∀ {b : List (Option T)} {cs : List T}, cells b = some cs → b = cs.map some
  | [], cs, h => by cases (show some [] = some cs from h); rfl
  | some t :: r, cs, h => by
    have h' : (cells r).map (t :: ·) = some cs := h
    cases e : cells r with
    | none => rw [e] at h'; cases h'
    | some ts =>
      rw [e] at h'
      cases h'
      rw [cells_eq e]
      rfl
  | none :: r, cs, h => by cases h
/-- the cells at the end, as one block -/
theorem trs_cells {B : List V} {ow : Addr → Option Pl} : ∀ {vs : List V} {ts : List T} {m : Nat}, vs.length = ts.length → (∀ (j : Nat) (v : V) (t : T), vs[j]? = some v → ts[j]? = some t → ∃ fp, TR K B I H v t fp ∧ fp.Nodup ∧ ∀ a ∈ fp, ow a = some (.c (m + j))) →
    ∃ ff, TRs K B I H vs ts ff ∧ ff.Nodup ∧ ∀ a ∈ ff, ∃ j, m ≤ j ∧ ow a = some (.c j)
  | [], [], m, _, _ => ⟨[], .nil, List.nodup_nil, fun a ha => by cases ha⟩
  | v :: vs, t :: ts, m, hl, h => by
    obtain ⟨fp, h1, h2, h3⟩ := h 0 v t rfl rfl
    obtain ⟨ff, k1, k2, k3⟩ := trs_cells (B := B) (ow := ow) (m := m + 1) (vs := vs) (ts := ts) (by simpa using hl) fun j v t hv ht => by
      obtain ⟨fq, q1, q2, q3⟩ := h (j + 1) v t hv ht
      exact ⟨fq, q1, q2, fun a ha => by rw [q3 a ha]; congr 2; omega⟩
    refine ⟨fp ++ ff, .cons h1 k1, List.nodup_append.mpr ⟨h2, k2, fun a ha b hb e => ?_⟩, fun a ha => ?_⟩
    · subst e
      have e1 := h3 a ha
      obtain ⟨j, hj, e2⟩ := k3 a hb
      rw [e1] at e2
      cases e2
      omega
    · rcases List.mem_append.mp ha with ha | ha
      · exact ⟨m, Nat.le_refl m, h3 a ha⟩
      · obtain ⟨j, hj, e⟩ := k3 a ha
        exact ⟨j, by omega, e⟩
end
section
variable {P : Program} {w : World} {K : PySem.W.Frag} {mg : Str → Option Value} {base : Heap}
/-- what the names of a text stand for -/
structure GlOk (P : Program) (w : World) (K : PySem.W.Frag) (mg : Str → Option Value) (base : Heap) (k : Nat) (fns : Str → Nat → List Str → Option Fn) (gl : Str → Option D) (gd : Str → Option (List (Str × D))) (blt : Str → Bool) (ex : Exs) : Prop where
  blt : ∀ x, blt x = true → mg x = none
  gl : ∀ x d, gl x = some d → ∃ v u, mg x = some u ∧ RelV v u ∧ ∀ I, Dt K I v d
  gd : ∀ x kvs, gd x = some kvs → ∃ a : Addr, mg x = some (.ref a) ∧ ∀ z d, kvs.lookup z = some d → ∃ v, KDct K w a z v ∧ ∀ I, Dt K I v d
  fns : ∀ x n ks fn, fns x n ks = some fn → FnAt P w K mg base k x n ks fn
  ex : ExOk P w K mg base k ex
theorem fn_ok {x qual : Str} {params : Arguments} {body : List Stmt} {scope : Scope} {dvs : List V} {kws : List (Str × V)} {f : Addr} {fd : FuncData} {N ps : List Str} {k : Nat} {fn : Fn} {fns : Str → Nat → List Str → Option Fn} {gl : Str → Option D} {gd : Str → Option (List (Str × D))} {blt : Str → Bool} {ex : Exs}
    (F : FunD K x qual params body scope dvs kws f fd) (Sc : FnScope N ps scope) (G : GlOk P w K mg base k fns gl gd blt ex) (hl : fn.sig.length = ps.length) (hN : ps.length ≤ N.length)
    (run : ∀ ds cs r cs', fn.run ds cs = some (.val r cs') → ∃ n wf, runBody n ⟨N, scope, fns, gl, gd, blt, wf, fun _ => true, ex⟩ fn body ds cs = some (.val r cs')) :
    FnOk P w K mg base CX0 (k + 1) f fd ps (spF K fn) := by
  refine F.ok Sc (fun vs H Q E h => ?_) (fun cdv A outer s H vs Q E hr h => ?_)
  · obtain ⟨I, ds, bs, cs, ff, r, cs', ha, _⟩ := h
    rw [argsR_len ha, hl]
  · obtain ⟨I, ds, bs, cs, ff, r, cs', ha, hI, hb, nd, hf, hrun, q⟩ := h
    obtain ⟨n, wf, e⟩ := run ds cs r cs' hrun
    refine ⟨_, (pss_w body).nox, ?_⟩
    have cx : CtxOk k ⟨N, scope, fns, gl, gd, blt, wf, fun _ => true, ex⟩ (cxOf CX0 P w K mg base N qual scope f cdv A outer s H E).nox :=
      ⟨rfl, rfl, Sc.kind, Sc.nd, rfl, hr, fun _ _ => rfl, G.blt, G.gl, G.gd, G.fns, G.ex⟩
    have Rl := rel_start (N := N) ha hI hb nd hf (by rw [hl]; exact hN)
    unfold runBody at e
    cases hm : seqS (EX ⟨N, scope, fns, gl, gd, blt, wf, fun _ => true, ex⟩ n) body (startS N.length fn.sig ds cs) with
    | bad => rw [hm] at e; cases e
    | exc x s1 =>
      rw [hm] at e
      simp only at e
      split at e <;> cases e
    | ok fl s' =>
      rw [hm] at e
      have go := snd_seq (snd_EX cx PassesOwn.never n) body _ fl s' hm ⟨I, H, bs, ff, []⟩ I H (start N vs) { nx := fun _ H' => Q .non H', rt := Q } Rl
      have post : ∀ v I' H' σ', Rel K ((⟨I, H, bs, ff, []⟩ : Fx).push v r) I' H' σ' s' → cells s'.b = some cs' → noP r = true → noPs cs' = true → Q v H' := fun v I' H' σ' R' hc' n1 n2 => by
        have eb := cells_eq hc'
        obtain ⟨ow, R'⟩ := R'
        obtain ⟨fp, t1, t2, t3⟩ := R'.hold (.t 0) v r rfl
        have hbl : bs.length = cs'.length := by
          have := R'.blen
          rw [eb, List.length_map] at this
          exact this.symm
        obtain ⟨fc, c1, c2, c3⟩ := trs_cells (K := K) (I := I') (H := H') (B := bs) (ow := ow) (vs := bs) (ts := cs') (m := 0) hbl fun j v' t' hv ht => by
          obtain ⟨fq, z1, z2, z3⟩ := R'.hold (.c j) v' t' ⟨hv, by rw [eb, List.getElem?_map, ht]; rfl⟩
          exact ⟨fq, z1, z2, fun a ha => by rw [z3 a ha, Nat.zero_add]⟩
        have hn : noPs (r :: cs') = true := by
          show (noP r && noPs cs') = true
          rw [n1, n2]
          rfl
        have own : ∀ a ∈ fp ++ fc, I' a = none ∧ (H a = none ∨ a ∈ ff) := fun a ha => by
          rcases List.mem_append.mp ha with ha | ha
          · exact R'.own a _ (t3 a ha)
          · obtain ⟨j, _, e⟩ := c3 a ha
            exact R'.own a _ e
        refine q v I' H' (fp ++ fc) R'.le0 R'.le R'.keep R'.new (TRs.re (B := bs) (.cons t1 c1) hn) (List.nodup_append.mpr ⟨t2, c2, fun a ha b hb e => ?_⟩) own
        subst e
        obtain ⟨j, _, e2⟩ := c3 a hb
        rw [t3 a ha] at e2
        cases e2
      cases fl with
      | nx =>
        simp only at e
        cases hc : cells s'.b with
        | none => rw [hc] at e; cases e
        | some b =>
          rw [hc] at e
          simp only at e
          split at e
          · rename_i hnp
            cases e
            exact go fun I' H' σ' _ R' => post .non I' H' σ' (R'.pushD .non) hc rfl hnp
          · cases e
      | rt d =>
        simp only at e
        cases hc : cells s'.b with
        | none => rw [hc] at e; cases e
        | some b =>
          rw [hc] at e
          simp only at e
          split at e
          · rename_i hnp
            rw [Bool.and_eq_true] at hnp
            cases e
            exact go fun v I' H' σ' _ R' => post v I' H' σ' R' hc hnp.1 hnp.2
          · cases e
      | brk => cases e
      | cnt => cases e
end
end Nw
end

set_option Elab.async false
set_option linter.all false
set_option maxRecDepth 100000
set_option maxHeartbeats 4000000
noncomputable section
namespace Nw
open PySem L2 PySem.Spec

/-! ### the words of printed bodies -/
def dat (m : S → Res T) : S → Res D := bnd m fun t => lift (fz t)
def evT : List (S → Res T) → S → Res (List T)
  | [] => ret []
  | m :: ms => bnd m fun d => bnd (evT ms) fun ds => ret (d :: ds)
def evD : List (S → Res D) → S → Res (List D)
  | [] => ret []
  | m :: ms => bnd m fun d => bnd (evD ms) fun ds => ret (d :: ds)
inductive Ag where
  | d (m : S → Res D) | c (i : Nat) | t (m : S → Res T)
def argsM : List Ag → S → Res (List D × List T × List Cell)
  | [] => ret ([], [], [])
  | .d m :: r => bnd m fun d => bnd (argsM r) fun r => ret (d :: r.1, r.2.1, r.2.2)
  | .c i :: r => bnd (fun s => lift (cellOf i s) s) fun c => bnd (argsM r) fun r => if r.2.1.isEmpty then ret (r.1, [], c :: r.2.2) else fail
  | .t m :: r => bnd m fun t => bnd (argsM r) fun r => if r.2.1.isEmpty then ret (r.1, [t], r.2.2) else fail
def tupM (ms : List (S → Res D)) : S → Res T := bnd (evD ms) fun ds => lift (if ds.length ≤ sizeLine then some (.d (.tuple ds)) else none)
def lstM (ms : List (S → Res T)) : S → Res T := bnd (evT ms) fun ts => lift (if ts.length ≤ sizeLine then some (.l ts) else none)
def lstD (ms : List (S → Res D)) : S → Res T := bnd (evD ms) fun ds => lift (if ds.length ≤ sizeLine then some (.l (ds.map T.d)) else none)
def cpr (own : List Nat) (it : S → Res (List D)) (asg : D → S → Res Unit) (tst : S → Res Bool) (elt : S → Res D) : S → Res T := bnd it fun ds s => if noOwn s.g own then
  (match compL own asg tst elt ds [] { s with g := wipeG s.g own } with
    | .ok acc s' => .ok (.l (acc.map T.d)) { s' with g := backG s.g s'.g own }
    | .exc _ _ => .bad
    | .bad => .bad) else .bad
def rngD (d : D) : Option (List D) := (intD d).bind fun j => if inR j then some ((List.range j.toNat).map fun i => .int (0 + (i : Nat))) else none
def rngD2 (d d' : D) : Option (List D) := (intD d).bind fun i => (intD d').bind fun j => if inR i && inR j then some ((List.range (j - i).toNat).map fun k => .int (i + (k : Nat))) else none
def enumD (d : D) : Option (List D) := match d with
  | .list xs => some ((List.range xs.length).zipWith (fun i x => .tuple [.int (i : Nat), x]) xs)
  | _ => none
def zipD (d d' : D) : Option (List D) := match d, d' with
  | .list xs, .list ys => some (List.zipWith (fun x y => .tuple [x, y]) xs ys)
  | .tuple xs, .tuple ys => some (List.zipWith (fun x y => .tuple [x, y]) xs ys)
  | _, _ => none
def asgL : List (D → S → Res Unit) → List D → S → Res Unit
  | [], [] => ret ()
  | t :: ts, d :: ds => bnd (t d) fun _ => asgL ts ds
  | _, _ => fail
def asgTup (ts : List (D → S → Res Unit)) (d : D) : S → Res Unit := match d with
  | .tuple ds => asgL ts ds
  | .list ds => asgL ts ds
  | _ => fail
def asgStar (pre : List (D → S → Res Unit)) (t : D → S → Res Unit) (d : D) : S → Res Unit := match seqD d with
  | some ds => if pre.length ≤ ds.length then bnd (asgL pre (ds.take pre.length)) fun _ => t (.list (ds.drop pre.length)) else fail
  | _ => fail
def nmM : List Nat → List T → S → Res Unit
  | [], [] => ret ()
  | i :: is, d :: ds => bnd (setT i d) fun _ => nmM is ds
  | _, _ => fail
def appM (i : Nat) (m : S → Res D) : S → Res Fl := bnd (isLst i) fun _ => bnd m fun d => bnd (chP (i, []) (appD d)) fun _ => ret .nx
def sq : List (S → Res Fl) → S → Res Fl
  | [] => ret .nx
  | m :: r => bnd m fun fl => match fl with
    | .nx => sq r
    | .rt d => ret (.rt d)
    | .brk => ret .brk
    | .cnt => ret .cnt
def fnsOf (t : List (Str × Nat × List Str × Fn)) (x : Str) (n : Nat) (ks : List Str) : Option Fn := match t with
  | [] => none
  | (y, m, js, fn) :: r => if x = y ∧ n = m ∧ ks = js then some fn else fnsOf r x n ks
def glOf (t : List (Str × D)) (x : Str) : Option D := match t with
  | [] => none
  | (y, d) :: r => if x = y then some d else glOf r x
def gdOf (t : List (Str × List (Str × D))) (x : Str) : Option (List (Str × D)) := match t with
  | [] => none
  | (y, d) :: r => if x = y then some d else gdOf r x
def bltOf (t : List Str) (x : Str) : Bool := match t with
  | [] => false
  | y :: r => if x = y then true else bltOf r x
def methM (m : Str) (o : S → Res D) (as : List (S → Res D)) : S → Res T := bnd o fun d => (match d with
  | .str a => bnd (evD as) fun ds => lift (methS m a ds)
  | _ => fail)
def pl0 (r : Nat) : S → Option (Nat × List Step) := fun _ => some (r, [])
def plS (p : S → Option (Nat × List Step)) (k : S → Option Step) : S → Option (Nat × List Step) := fun s => match p s, k s with
  | some (r, st), some k => some (r, st ++ [k])
  | _, _ => none
def kI (z : Int) : S → Option Step := fun _ => some (.ix (.inl z))
def kS (x : Str) : S → Option Step := fun _ => some (.ix (.inr x))
def kN (i : Nat) : S → Option Step := fun s => match s.g[i]? with
  | some (.v (.d (.int z))) => some (.ix (.inl z))
  | some (.v (.d (.str z))) => some (.ix (.inr z))
  | _ => none
def subM (p : S → Option (Nat × List Step)) (m : S → Res T) : S → Res T := fun s => match (p s).bind (getAt s) with
  | some (.d d) => .ok (.d d) s
  | _ => m s
def pkM (p : S → Option (Nat × List Step)) (m : S → Res D) : S → Res D := fun s => match (p s).bind (getAt s) with
  | some t => (match vw t with | some d => .ok d s | none => .bad)
  | none => m s
def isiM (X : Int → Option Bool) (Y : String → Option Bool) (m : S → Res D) : S → Res T := bnd m fun d => lift ((match excOf d with | some c => X c | none => (tyD d).bind Y).map fun b => .d (.bool b))
def exM (c : Int) (f : Str) (m : S → Res D) : S → Res T := bnd m fun d => ret (.d (.dict [(.none, .int c), (.str f, d)]))
/-- own exception classes: name, class, field, built-in classes above -/
structure ExRow where
  nm : Str
  c : Int
  f : Option Str
  up : List Str
def rowN : List ExRow → Str → Option ExRow
  | [], _ => none
  | r :: t, x => if r.nm = x then some r else rowN t x
def rowC : List ExRow → Int → Option ExRow
  | [], _ => none
  | r :: t, c => if r.c = c then some r else rowC t c
/-- bt: the built-in classes that are asked about -/
def exT (t : List ExRow) (bt : List Str) : Exs where
  made := fun x => (rowN t x).map fun r => (r.c, r.f)
  isi := fun c y => (rowC t c).bind fun r => match rowN t y with
    | some r' => some (decide (r.c = r'.c))
    | none => if bt.contains y then some (r.up.contains y) else none
  fld := fun c f => match rowC t c with | some r => r.f == some f | none => false

/-! ### a def as what its printed body reckons -/
def rvOf : Res Fl → Option Rv
  | .ok .nx s => (match cells s.b with | some b => if noPs b then some (.val (.d .none) b) else none | none => none)
  | .ok (.rt t) s => (match cells s.b with | some b => if noP t && noPs b then some (.val t b) else none | none => none)
  | .ok _ _ => none
  | .exc x s => (match cells s.b with | some b => some (.exc x b) | none => none)
  | .bad => none
def mkF (l : Nat) (sig : List Bool) (cb : S → Res Fl) : Fn := ⟨sig, fun a b => rvOf (cb (startS l sig a b))⟩
theorem run_mkF {l : Nat} {sig : List Bool} {cb : S → Res Fl} {a : List D} {b b' : List T} {t : T} {s' : S} (h : cb (startS l sig a b) = .ok (.rt t) s') (hc : cells s'.b = some b') (hn : (noP t && noPs b') = true) : (mkF l sig cb).run a b = some (Rv.val t b') := by
  show rvOf (cb (startS l sig a b)) = _
  rw [h]
  show (match cells s'.b with | some b => if noP t && noPs b then some (Rv.val t b) else none | none => none) = _
  rw [hc]
  show (if (noP t && noPs b') = true then _ else _) = _
  rw [if_pos hn]
section
variable {P : Program} {w : World} {K : PySem.W.Frag} {mg : Str → Option Value} {base : Heap}
theorem fn_okC {x qual : Str} {params : Arguments} {body : List Stmt} {scope : Scope} {dvs : List V} {kws : List (Str × V)} {f : Addr} {fd : FuncData} {N ps : List Str} {k n wf : Nat} {fns : Str → Nat → List Str → Option Fn} {gl : Str → Option D} {gd : Str → Option (List (Str × D))} {blt : Str → Bool} {ex : Exs} {cb : Nat → S → Res Fl} {sig : List Bool}
    (F : FunD K x qual params body scope dvs kws f fd) (Sc : FnScope N ps scope) (G : GlOk P w K mg base k fns gl gd blt ex) (hl : sig.length = ps.length) (hN : ps.length ≤ N.length)
    (hb : ∀ wf, seqS (EX ⟨N, scope, fns, gl, gd, blt, wf, fun _ => true, ex⟩ n) body = cb wf) : FnOk P w K mg base CX0 (k + 1) f fd ps (spF K (mkF N.length sig (cb wf))) := by
  refine fn_ok F Sc G hl hN fun a b x y h => ?_
  refine ⟨n, wf, ?_⟩
  rw [← h]
  unfold runBody
  have e3 := hb wf
  show (match seqS (EX ⟨N, scope, fns, gl, gd, blt, wf, fun _ => true, ex⟩ n) body (startS N.length sig a b) with
    | .ok .nx s => _
    | .ok (.rt d) s => _
    | .ok _ _ => _
    | .exc x b => _
    | .bad => _) = rvOf (cb wf (startS N.length sig a b))
  rw [e3]
  cases cb wf (startS N.length sig a b) with
  | ok fl s => cases fl <;> rfl
  | exc _ _ => rfl
  | bad => rfl
end
end Nw
end

set_option Elab.async false
set_option linter.all false
set_option maxRecDepth 100000
set_option maxHeartbeats 4000000
noncomputable section
namespace Nw
open PySem L2 PySem.Spec

/-! ### evaluation -/
section
variable {α β : Type}
theorem bnd_ap (m : S → Res α) (f : α → S → Res β) (s : S) : bnd m f s = (match m s with | .ok a s' => f a s' | .exc x b => .exc x b | .bad => .bad) := rfl
theorem bnd_of {m : S → Res α} {f : α → S → Res β} {s s' : S} {a : α} (h : m s = .ok a s') : bnd m f s = f a s' := by rw [bnd_ap, h]
theorem e_ret (a : α) (s : S) : Nw.ret a s = Res.ok a s := rfl
theorem e_some (a : α) (s : S) : lift (some a) s = Res.ok a s := rfl
theorem e_fail (s : S) : (fail : S → Res α) s = Res.bad := rfl
end
theorem e_dat (m : S → Res T) (s : S) : dat m s = (match m s with | .ok t s' => lift (fz t) s' | .exc x b => .exc x b | .bad => .bad) := by
  show bnd m _ s = _
  rw [bnd_ap]
  cases m s <;> rfl
theorem fz_d (d : D) : fz (.d d) = some d := by unfold fz; rfl
theorem fz_ds (ds : List D) : fz (.l (ds.map T.d)) = some (.list ds) := by unfold fz; rw [fzs_d]
theorem fz_l' (ts : List T) : fz (.l ts) = (match fzs ts with | some ds => some (.list ds) | none => none) := by unfold fz; rfl
theorem fzs_n : fzs [] = some [] := by unfold fzs; rfl
theorem fzs_c (d : D) (r : List T) : fzs (.d d :: r) = (match fzs r with | some ds => some (d :: ds) | none => none) := by
  (rw [fzs, fz_d]) <;> rfl
theorem e_sq0 (s : S) : sq [] s = Res.ok .nx s := rfl
theorem e_sq (m : S → Res Fl) (r : List (S → Res Fl)) (s : S) : sq (m :: r) s = (match m s with
  | .ok .nx s' => sq r s'
  | .ok (.rt d) s' => .ok (.rt d) s'
  | .ok .brk s' => .ok .brk s'
  | .ok .cnt s' => .ok .cnt s'
  | .exc x b => .exc x b
  | .bad => .bad) := by
  show bnd m _ s = _
  rw [bnd_ap]
  cases m s with
  | ok fl s' => cases fl <;> rfl
  | exc _ _ => rfl
  | bad => rfl
theorem e_evD0 (s : S) : evD [] s = Res.ok [] s := rfl
theorem e_evD (m : S → Res D) (r : List (S → Res D)) (s : S) : evD (m :: r) s = (match m s with
  | .ok d s' => (match evD r s' with | .ok ds s2 => .ok (d :: ds) s2 | .exc x b => .exc x b | .bad => .bad)
  | .exc x b => .exc x b
  | .bad => .bad) := by
  show bnd m _ s = _
  rw [bnd_ap]
  cases m s with
  | ok d s' =>
    show bnd (evD r) _ s' = _
    rw [bnd_ap]
    cases h : evD r s' <;> simp only [h] <;> rfl
  | exc _ _ => rfl
  | bad => rfl
theorem e_evT0 (s : S) : evT [] s = Res.ok [] s := rfl
theorem e_evT (m : S → Res T) (r : List (S → Res T)) (s : S) : evT (m :: r) s = (match m s with
  | .ok d s' => (match evT r s' with | .ok ds s2 => .ok (d :: ds) s2 | .exc x b => .exc x b | .bad => .bad)
  | .exc x b => .exc x b
  | .bad => .bad) := by
  show bnd m _ s = _
  rw [bnd_ap]
  cases m s with
  | ok d s' =>
    show bnd (evT r) _ s' = _
    rw [bnd_ap]
    cases h : evT r s' <;> simp only [h] <;> rfl
  | exc _ _ => rfl
  | bad => rfl
theorem e_tupM (ms : List (S → Res D)) (s : S) : tupM ms s = (match evD ms s with | .ok ds s' => lift (if ds.length ≤ sizeLine then some (.d (.tuple ds)) else none) s' | .exc x b => .exc x b | .bad => .bad) := by
  show bnd (evD ms) _ s = _
  rw [bnd_ap]
  cases evD ms s <;> rfl
theorem e_lstM (ms : List (S → Res T)) (s : S) : lstM ms s = (match evT ms s with | .ok ds s' => lift (if ds.length ≤ sizeLine then some (.l ds) else none) s' | .exc x b => .exc x b | .bad => .bad) := by
  show bnd (evT ms) _ s = _
  rw [bnd_ap]
  cases evT ms s <;> rfl
theorem e_lstD (ms : List (S → Res D)) (s : S) : lstD ms s = (match evD ms s with | .ok ds s' => lift (if ds.length ≤ sizeLine then some (.l (ds.map T.d)) else none) s' | .exc x b => .exc x b | .bad => .bad) := by
  show bnd (evD ms) _ s = _
  rw [bnd_ap]
  cases evD ms s <;> rfl
theorem e_args0 (s : S) : argsM [] s = Res.ok ([], [], []) s := rfl
theorem e_argsD (m : S → Res D) (r : List Ag) (s : S) : argsM (.d m :: r) s = (match m s with
  | .ok d s' => (match argsM r s' with | .ok ds s2 => .ok (d :: ds.1, ds.2.1, ds.2.2) s2 | .exc x b => .exc x b | .bad => .bad)
  | .exc x b => .exc x b
  | .bad => .bad) := by
  show bnd m _ s = _
  rw [bnd_ap]
  cases m s with
  | ok d s' =>
    show bnd (argsM r) _ s' = _
    rw [bnd_ap]
    cases h : argsM r s' <;> simp only [h] <;> rfl
  | exc _ _ => rfl
  | bad => rfl
theorem e_argsC (i : Nat) (r : List Ag) (s : S) : argsM (.c i :: r) s = (match cellOf i s with
  | some c => (match argsM r s with | .ok ds s2 => (if ds.2.1.isEmpty then .ok (ds.1, [], c :: ds.2.2) s2 else .bad) | .exc x b => .exc x b | .bad => .bad)
  | none => .bad) := by
  show bnd (fun s => lift (cellOf i s) s) _ s = _
  rw [bnd_ap]
  cases cellOf i s with
  | some c =>
    show bnd (argsM r) _ s = _
    rw [bnd_ap]
    cases h : argsM r s with
    | ok ds s2 =>
      show (if ds.2.1.isEmpty then Nw.ret (ds.1, [], c :: ds.2.2) else fail : S → Res _) s2 = (if ds.2.1.isEmpty then .ok (ds.1, [], c :: ds.2.2) s2 else .bad)
      split <;> rfl
    | exc _ _ => rfl
    | bad => rfl
  | none => rfl
theorem e_setT (i : Nat) (t : T) (g : List Sl) (b : List (Option T)) : setT i t ⟨g, b⟩ = Res.ok () ⟨g.set i (.v t), b⟩ := rfl
theorem e_add (i j : Int) : binD .Add (.int i) (.int j) = some (.d (.int (i + j))) := rfl
theorem e_sub (i j : Int) : binD .Sub (.int i) (.int j) = some (.d (.int (i - j))) := rfl
theorem e_mul (i j : Int) : binD .Mult (.int i) (.int j) = if CMul i j ∨ CMulW i j then some (.d (.int (i * j))) else none := rfl
theorem e_div (i j : Int) : binD .FloorDiv (.int i) (.int j) = if CDivW i j then some (.d (.int (i / j))) else none := rfl
theorem e_mod (i j : Int) : binD .Mod (.int i) (.int j) = if 0 < j then some (.d (.int (i % j))) else none := rfl
theorem e_pow (i j : Int) : binD .Pow (.int i) (.int j) = if CPow i j then some (.d (.int (i ^ j.toNat))) else none := rfl
theorem e_and (i j : Int) : binD .BitAnd (.int i) (.int j) = some (.d (.int (Builtin.bitAnd i j))) := rfl
theorem e_app (a b : List D) : binD .Add (.list a) (.list b) = if a.length + b.length ≤ sizeLine then some (.l ((a ++ b).map .d)) else none := rfl
theorem e_adda (i j : Int) : augD .Add (.int i) (.int j) = some (.int (i + j)) := rfl
theorem e_suba (i j : Int) : augD .Sub (.int i) (.int j) = some (.int (i - j)) := rfl
theorem e_mula (i j : Int) : augD .Mult (.int i) (.int j) = if CMul i j then some (.int (i * j)) else none := rfl
theorem e_diva (i j : Int) : augD .FloorDiv (.int i) (.int j) = if CDivW i j then some (.int (i / j)) else none := rfl
theorem e_lt (i j : Int) : cmpD .Lt (.int i) (.int j) = some (decide (i < j)) := by rw [← ltB_eq]; rfl
theorem e_le (i j : Int) : cmpD .LtE (.int i) (.int j) = some (decide (i ≤ j)) := by rw [← leB_eq]; rfl
theorem e_gt (i j : Int) : cmpD .Gt (.int i) (.int j) = some (decide (j < i)) := by rw [← ltB_eq]; rfl
theorem e_ge (i j : Int) : cmpD .GtE (.int i) (.int j) = some (decide (j ≤ i)) := by rw [← leB_eq]; rfl
theorem e_eq (i j : Int) : cmpD .Eq (.int i) (.int j) = some (decide (i = j)) := by rw [← eqB_eq]; rfl
theorem e_ne (i j : Int) : cmpD .NotEq (.int i) (.int j) = some (!decide (i = j)) := by rw [← eqB_eq]; rfl
theorem e_eqb (i j : Bool) : cmpD .Eq (.bool i) (.bool j) = some (decide (i = j)) := rfl
theorem e_neb (i j : Bool) : cmpD .NotEq (.bool i) (.bool j) = some (!decide (i = j)) := rfl
theorem e_eqs (i j : Str) : cmpD .Eq (.str i) (.str j) = some (decide (i = j)) := rfl
theorem e_neg (i : Int) : negD (.int i) = some (.int (-i)) := rfl
theorem e_trb (b : Bool) : truthD (.bool b) = some b := rfl
theorem e_bool (b : Bool) : boolD (.bool b) = some b := rfl
theorem e_int (i : Int) : intD (.int i) = some i := rfl
theorem at_z {α : Type} (d : α) (r : List α) : atI (d :: r) 0 = some d := by
  unfold atI ixN
  simp
theorem at_o {α : Type} (c d : α) (r : List α) : atI (c :: d :: r) 1 = some d := by
  unfold atI ixN
  simp
  rw [if_pos (by omega)]
  rfl
theorem at_t {α : Type} (c d e : α) (r : List α) : atI (c :: d :: e :: r) 2 = some e := by
  unfold atI ixN
  simp
  rw [if_pos (by omega)]
  rfl
theorem at_nat {α : Type} (xs : List α) (n : Nat) (h : n < xs.length) : atI xs (n : Int) = some xs[n] := by
  unfold atI ixN
  simp
  rw [if_pos (by omega)]
  simp [h]
theorem e_ixt (r : List D) (i : Int) : ixD (.tuple r) (.int i) = atI r i := rfl
theorem e_ixl (r : List D) (i : Int) : ixD (.list r) (.int i) = atI r i := rfl
theorem for_step {asg : D → S → Res Unit} {body : S → Res Fl} {d : D} {r : List D} {s s1 : S} (h : bnd (asg d) (fun _ => body) s = .ok .nx s1) : forL asg body (d :: r) s = forL asg body r s1 := by
  show bnd (asg d) (fun _ => bnd body _) s = _
  rw [bnd_ap] at h ⊢
  cases ha : asg d s with
  | ok u s' =>
    rw [ha] at h
    have h' : body s' = .ok .nx s1 := h
    show bnd body _ s' = _
    rw [bnd_ap, h']
  | exc _ _ => rw [ha] at h; cases h
  | bad => rw [ha] at h; cases h
theorem for_inv {asg : D → S → Res Unit} {body : S → Res Fl} (I : Nat → S → Prop) : ∀ (ds : List D) (n : Nat) (s : S), I n s → (∀ i (h : i < ds.length) s, I (n + i) s → ∃ s', bnd (asg ds[i]) (fun _ => body) s = .ok .nx s' ∧ I (n + i + 1) s') → ∃ s', forL asg body ds s = .ok .nx s' ∧ I (n + ds.length) s'
  | [], n, s, h, _ => ⟨s, rfl, h⟩
  | d :: r, n, s, h, st => by
    obtain ⟨s1, e1, h1⟩ := st 0 (Nat.zero_lt_succ _) s h
    obtain ⟨s2, e2, h2⟩ := for_inv I r (n + 1) s1 h1 fun i hi s hs => by
      have := st (i + 1) (Nat.succ_lt_succ hi) s (by rw [← Nat.add_assoc, Nat.add_right_comm]; exact hs)
      rw [← Nat.add_assoc, Nat.add_right_comm n i 1] at this
      exact this
    have e1' : bnd (asg d) (fun _ => body) s = .ok .nx s1 := e1
    exact ⟨s2, by rw [for_step e1']; exact e2, by rw [List.length_cons, Nat.add_comm r.length 1, ← Nat.add_assoc]; exact h2⟩
theorem comp_step {own : List Nat} {asg : D → S → Res Unit} {elt : S → Res D} {x d : D} {r acc : List D} {s s1 : S} (h : bnd (asg x) (fun _ => elt) s = .ok d s1) (hl : acc.length < sizeLine) :
    compL own asg (ret true) elt (x :: r) acc s = compL own asg (ret true) elt r (acc ++ [d]) { s1 with g := wipeG s1.g own } := by
  show bnd (asg x) (fun _ => bnd (ret true) _) s = _
  rw [bnd_ap] at h ⊢
  cases ha : asg x s with
  | ok u s' =>
    rw [ha] at h
    have h' : elt s' = .ok d s1 := h
    show bnd (ret true) _ s' = _
    rw [bnd_ap, e_ret]
    show bnd elt _ s' = _
    rw [bnd_ap, h']
    show (if acc.length < sizeLine then _ else fail : S → Res (List D)) s1 = _
    rw [if_pos hl]
  | exc _ _ => rw [ha] at h; cases h
  | bad => rw [ha] at h; cases h
/-- a comprehension whose state keeps to an invariant and whose items keep to a rule -/
theorem comp_inv {own : List Nat} {asg : D → S → Res Unit} {elt : S → Res D} (I : Nat → S → Prop) (P : D → Prop) : ∀ (ds : List D) (n : Nat) (acc : List D) (s : S), I n s → (∀ x ∈ acc, P x) → acc.length + ds.length ≤ sizeLine →
    (∀ i (h : i < ds.length) s, I (n + i) s → ∃ d s1, bnd (asg ds[i]) (fun _ => elt) s = .ok d s1 ∧ P d ∧ I (n + i + 1) { s1 with g := wipeG s1.g own }) →
    ∃ out s', compL own asg (ret true) elt ds acc s = .ok out s' ∧ I (n + ds.length) s' ∧ (∀ x ∈ out, P x) ∧ out.length = acc.length + ds.length
  | [], n, acc, s, h, ha, _, _ => ⟨acc, s, rfl, h, ha, rfl⟩
  | d :: r, n, acc, s, h, ha, hl, st => by
    obtain ⟨x, s1, e1, hx, h1⟩ := st 0 (Nat.zero_lt_succ _) s h
    obtain ⟨out, s2, e2, h2, h3, h4⟩ := comp_inv I P r (n + 1) (acc ++ [x]) _ h1 (by
      intro y hy
      rcases List.mem_append.mp hy with hy | hy
      · exact ha y hy
      · cases List.mem_singleton.mp hy; exact hx) (by simp only [List.length_append, List.length_cons, List.length_nil] at hl ⊢; omega) fun i hi s hs => by
      have := st (i + 1) (Nat.succ_lt_succ hi) s (by rw [← Nat.add_assoc, Nat.add_right_comm]; exact hs)
      rw [← Nat.add_assoc, Nat.add_right_comm n i 1] at this
      exact this
    refine ⟨out, s2, ?_, ?_, h3, ?_⟩
    · have hl' : acc.length < sizeLine := by simp only [List.length_cons] at hl; omega
      have e1' : bnd (asg d) (fun _ => elt) s = .ok x s1 := e1
      rw [comp_step e1' hl']
      exact e2
    · rw [List.length_cons, Nat.add_comm r.length 1, ← Nat.add_assoc]
      exact h2
    · rw [h4]
      simp only [List.length_append, List.length_cons, List.length_nil]
      omega
theorem bools_true : ∀ ds : List D, (∀ x ∈ ds, x = .bool true) → ∃ bs, boolsD ds = some bs ∧ bs.all id = true
  | [], _ => ⟨[], rfl, rfl⟩
  | d :: r, h => by
    cases h d (List.mem_cons_self ..)
    obtain ⟨bs, e, hb⟩ := bools_true r fun x hx => h x (List.mem_cons_of_mem _ hx)
    refine ⟨true :: bs, ?_, ?_⟩
    · show (boolsD r).map _ = _
      rw [e]; rfl
    · rw [List.all_cons, hb]; rfl
theorem all_true {ds : List D} (h : ∀ x ∈ ds, x = .bool true) : allD (.list ds) = some (.d (.bool true)) := by
  obtain ⟨bs, e, hb⟩ := bools_true ds h
  show (boolsD ds).map _ = _
  rw [e, Option.map_some, hb]
/-- all([.. for ..]), all of them true -/
theorem all_comp {own : List Nat} {it : S → Res (List D)} {asg : D → S → Res Unit} {elt : S → Res D} (I : Nat → S → Prop) {ds : List D} {s0 s : S} (hit : it s0 = .ok ds s) (ho : noOwn s.g own = true) (h0 : I 0 { s with g := wipeG s.g own }) (hl : ds.length ≤ sizeLine)
    (st : ∀ i (h : i < ds.length) s, I i s → ∃ s1, bnd (asg ds[i]) (fun _ => elt) s = .ok (.bool true) s1 ∧ I (i + 1) { s1 with g := wipeG s1.g own }) :
    ∃ out s', cpr own it asg (ret true) elt s0 = .ok (.l (out.map T.d)) { s' with g := backG s.g s'.g own } ∧ I ds.length s' ∧ allD (.list out) = some (.d (.bool true)) := by
  obtain ⟨out, s', e, h1, h2, _⟩ := comp_inv (own := own) (asg := asg) (elt := elt) I (fun d => d = .bool true) ds 0 [] _ h0 (fun _ h => by cases h) (by rw [List.length_nil, Nat.zero_add]; exact hl) fun i hi s hs => by
    rw [Nat.zero_add] at hs
    obtain ⟨s1, e1, h1⟩ := st i hi s hs
    exact ⟨_, s1, e1, rfl, by rw [Nat.zero_add]; exact h1⟩
  refine ⟨out, s', ?_, by rw [Nat.zero_add] at h1; exact h1, all_true h2⟩
  show bnd it _ s0 = _
  rw [bnd_of hit]
  show (if noOwn s.g own = true then _ else _) = _
  rw [if_pos ho, e]
/-! ### calls -/
theorem call_of {fn : Fn} {ds : List D} {cs : List Cell} {ts us : List T} {t : T} {s s1 : S} (e : takeCs cs s = some (ts, s1)) (hn : noPs ts = true) (h : fn.run ds ts = some (Rv.val t us)) (hl : us.length = ts.length) : callFn fn (ds, [], cs) s = .ok t (putCs cs us s1) := by
  unfold callFn
  simp only [e, List.nil_append, hn, if_true, h, List.length_nil, Nat.zero_add, List.drop_zero, hl]
theorem call_nil {fn : Fn} {ds : List D} {t : T} (h : fn.run ds [] = some (Rv.val t [])) (s : S) : callFn fn (ds, [], []) s = .ok t s := call_of (ts := []) (us := []) rfl rfl h rfl
/-- one tree, handed on as it was handed in -/
theorem call_bor {fn : Fn} {ds : List D} {n : Nat} {g : List Sl} {b : List (Option T)} {c c' t : T} (hc : b[n]? = some (some c)) (hn : noP c = true) (h : fn.run ds [c] = some (Rv.val t [c'])) : callFn fn (ds, [], [.bor n]) ⟨g, b⟩ = .ok t ⟨g, b.set n (some c')⟩ := by
  have e : takeCs [.bor n] ⟨g, b⟩ = some ([c], ⟨g, b.set n none⟩) := by
    unfold takeCs takeC
    simp only [hc]
    rfl
  rw [call_of e (by unfold noPs; rw [hn]; rfl) h rfl]
  show Res.ok t ⟨g, (b.set n none).set n (some c')⟩ = _
  rw [List.set_set]
/-- one tree, a slot's own -/
theorem call_own {fn : Fn} {ds : List D} {i : Nat} {g : List Sl} {b : List (Option T)} {c c' t : T} (hc : g[i]? = some (.v c)) (hn : noP c = true) (h : fn.run ds [c] = some (Rv.val t [c'])) : callFn fn (ds, [], [.own i]) ⟨g, b⟩ = .ok t ⟨g.set i (.v c'), b⟩ := by
  have e : takeCs [.own i] ⟨g, b⟩ = some ([c], ⟨g.set i .un, b⟩) := by
    unfold takeCs takeC
    simp only [hc]
    rfl
  rw [call_of e (by unfold noPs; rw [hn]; rfl) h rfl]
  show Res.ok t ⟨(g.set i .un).set i (.v c'), b⟩ = _
  rw [List.set_set]
end Nw
end

set_option Elab.async false
set_option linter.all false
set_option maxRecDepth 100000
set_option maxHeartbeats 4000000
noncomputable section
namespace Nw
open PySem L2 PySem.Spec

/-! ### the ends: defs as they stand at the top -/
def Has (K : PySem.W.Frag) (x : Str) (st : Stmt) (dvs : List V) : Prop := ∃ (f : Addr) (fd : FuncData), PySem.W.nsIn K mainGlobals x = some (some (.ref f)) ∧ FunD K x x (defArgs st) (defBody st) (defScope st) dvs [] f fd
section
variable {K : PySem.W.Frag} {x : Str} {st : Stmt} {f : Addr} {oc : Value} {od an : Option Addr} {osl : Array (Option Value)} {kV doc pm cdv ct : Value}
theorem has_mk (a : PySem.W.nsIn K mainGlobals x = some (some (.ref f))) (l : K.lookup f = some ⟨oc, od, .func (PySem.W.fnOf x x (defArgs st) (defBody st) (defScope st) .none kV doc pm an cdv ct), osl⟩) (c : PySem.W.codeIn K cdv x = true) (k : PySem.W.keepIn K (.ref f) = true) : Has K x st [] :=
  ⟨f, _, a, ⟨⟨oc, od, .none, kV, doc, pm, an, cdv, ct, osl, rfl, l, c, .inl ⟨rfl, rfl⟩, .inl rfl⟩, k⟩⟩
end
section
variable (P : Program) (w : World) (K : PySem.W.Frag) (mg : Str → Option Value) (base : Heap)
/-- x is a def that keeps its promise, all of its parameters given -/
structure Ok (k : Nat) (x : Str) (n : Nat) (fn : Fn) : Prop where
  ex : ∃ (f : Addr) (fd : FuncData) (ps : List Str), mg x = some (.ref f) ∧ PySem.W.keepIn K (.ref f) = true ∧ FnOk P w K mg base CX0 k f fd ps (spF K fn) ∧ Binds K fd ps [] ∧ fn.sig.length = n
def AllAt (k : Nat) : List (Str × Nat × List Str × Fn) → Prop
  | [] => True
  | (x, n, ks, fn) :: r => FnAt P w K mg base k x n ks fn ∧ AllAt k r
def AllGl : List (Str × D) → Prop
  | [] => True
  | (x, d) :: r => (∃ v u, mg x = some u ∧ RelV v u ∧ ∀ I, Dt K I v d) ∧ AllGl r
def AllB : List Str → Prop
  | [] => True
  | x :: r => mg x = none ∧ AllB r
/-- bt: the built-in classes that are asked about; what an own class over b says of them -/
def UpOk (b : Ba) (up bt : List Str) : Prop := ∀ y ∈ bt, ∃ T : String, bootBuiltins y = some (.type T) ∧ y ≠ "__name__" ∧ PySem.W.kitMeta T = true ∧ up.contains y = b.m.contains (.type T)
def AllEx (bt : List Str) : List ExRow → Prop
  | [] => True
  | r :: t => (∃ (Ca : Addr) (b : Ba), r.c = (Ca : Int) ∧ BaOk b ∧ ExC K Ca b ∧ ExM P w K mg base r.nm Ca r.f ∧ mg r.nm = some (.ref Ca) ∧ (∀ f, r.f = some f → PySem.W.findIn K (.ref Ca) f = some none) ∧ UpOk b r.up bt) ∧ AllEx bt t
end
section
variable {P : Program} {w : World} {K : PySem.W.Frag} {mg : Str → Option Value} {base : Heap}
theorem allB1 {x : Str} {r : List Str} (h : mg x = none) (t : AllB mg r) : AllB mg (x :: r) := ⟨h, t⟩
theorem allAt1 {k : Nat} {x : Str} {n : Nat} {ks : List Str} {fn : Fn} {r : List (Str × Nat × List Str × Fn)} (h : FnAt P w K mg base k x n ks fn) (t : AllAt P w K mg base k r) : AllAt P w K mg base k ((x, n, ks, fn) :: r) := ⟨h, t⟩
theorem Ok.at {j k : Nat} {x : Str} {n : Nat} {fn : Fn} (h : Ok P w K mg base j x n fn) (hj : j ≤ k) : FnAt P w K mg base k x n [] fn := by
  obtain ⟨f, fd, ps, h1, h2, h3, h4, h5⟩ := h.ex
  exact .pos h1 h2 (h3.mono hj) h4 .nil h5 fun vs H Q E h => by rw [List.append_nil]; exact h
theorem Ok.mono {j k : Nat} {x : Str} {n : Nat} {fn : Fn} (h : Ok P w K mg base j x n fn) (hj : j ≤ k) : Ok P w K mg base k x n fn := by
  obtain ⟨f, fd, ps, h1, h2, h3, h4, h5⟩ := h.ex
  exact ⟨f, fd, ps, h1, h2, h3.mono hj, h4, h5⟩
theorem at_mono {j k : Nat} {x : Str} {n : Nat} {ks : List Str} {fn : Fn} (h : FnAt P w K mg base j x n ks fn) (hj : j ≤ k) : FnAt P w K mg base k x n ks fn := by
  cases h with
  | pos a b c d e f g => exact .pos a b (c.mono hj) d e f g
  | kw a b c d e f g i => exact .kw a b (c.mono hj) d e f g i
theorem allAt_ok {k : Nat} : ∀ {t : List (Str × Nat × List Str × Fn)}, AllAt P w K mg base k t → ∀ x n ks fn, fnsOf t x n ks = some fn → FnAt P w K mg base k x n ks fn
  | [], _, x, n, ks, fn, e => by cases e
  | (y, m, js, gn) :: r, h, x, n, ks, fn, e => by
    have e' : (if x = y ∧ n = m ∧ ks = js then some gn else fnsOf r x n ks) = some fn := e
    by_cases c : x = y ∧ n = m ∧ ks = js
    · rw [if_pos c] at e'
      obtain ⟨rfl, rfl, rfl⟩ := c
      cases e'
      exact h.1
    · rw [if_neg c] at e'
      exact allAt_ok h.2 x n ks fn e'
theorem allGl_ok : ∀ {t : List (Str × D)}, AllGl K mg t → ∀ x d, glOf t x = some d → ∃ v u, mg x = some u ∧ RelV v u ∧ ∀ I, Dt K I v d
  | [], _, x, d, e => by cases e
  | (y, m) :: r, h, x, d, e => by
    have e' : (if x = y then some m else glOf r x) = some d := e
    by_cases c : x = y
    · rw [if_pos c] at e'
      subst c
      cases e'
      exact h.1
    · rw [if_neg c] at e'
      exact allGl_ok h.2 x d e'
theorem allB_ok : ∀ {t : List Str}, AllB mg t → ∀ x, bltOf t x = true → mg x = none
  | [], _, x, e => by cases e
  | y :: r, h, x, e => by
    have e' : (if x = y then true else bltOf r x) = true := e
    by_cases c : x = y
    · subst c
      exact h.1
    · rw [if_neg c] at e'
      exact allB_ok h.2 x e'
theorem allB_mem : ∀ {t : List Str}, AllB mg t → ∀ x ∈ t, mg x = none
  | [], _, x, e => by cases e
  | y :: r, h, x, e => by
    rcases List.mem_cons.mp e with rfl | e
    · exact h.1
    · exact allB_mem h.2 x e
theorem rowN_ok {bt : List Str} : ∀ {t : List ExRow}, AllEx P w K mg base bt t → ∀ x r, rowN t x = some r → r.nm = x ∧ ∃ (Ca : Addr) (b : Ba), r.c = (Ca : Int) ∧ BaOk b ∧ ExC K Ca b ∧ ExM P w K mg base r.nm Ca r.f ∧ mg r.nm = some (.ref Ca) ∧ (∀ f, r.f = some f → PySem.W.findIn K (.ref Ca) f = some none) ∧ UpOk b r.up bt
  | [], _, x, r, e => by cases e
  | y :: t, h, x, r, e => by
    have e' : (if y.nm = x then some y else rowN t x) = some r := e
    by_cases c : y.nm = x
    · rw [if_pos c] at e'
      cases e'
      exact ⟨c, h.1⟩
    · rw [if_neg c] at e'
      exact rowN_ok h.2 x r e'
theorem rowC_ok {bt : List Str} : ∀ {t : List ExRow}, AllEx P w K mg base bt t → ∀ c r, rowC t c = some r → r.c = c ∧ ∃ (Ca : Addr) (b : Ba), r.c = (Ca : Int) ∧ BaOk b ∧ ExC K Ca b ∧ ExM P w K mg base r.nm Ca r.f ∧ mg r.nm = some (.ref Ca) ∧ (∀ f, r.f = some f → PySem.W.findIn K (.ref Ca) f = some none) ∧ UpOk b r.up bt
  | [], _, x, r, e => by cases e
  | y :: t, h, x, r, e => by
    have e' : (if y.c = x then some y else rowC t x) = some r := e
    by_cases c : y.c = x
    · rw [if_pos c] at e'
      cases e'
      exact ⟨c, h.1⟩
    · rw [if_neg c] at e'
      exact rowC_ok h.2 x r e'
theorem exOk_of {k : Nat} {t : List ExRow} {bt : List Str} (hk : 2 ≤ k) (hb : AllB mg bt) (h : AllEx P w K mg base bt t) : ExOk P w K mg base k (exT t bt) := by
  refine ⟨fun x c fo e => ⟨hk, ?_⟩, fun c y r e => ?_, fun c f e => ?_⟩
  · obtain ⟨r, e1, e2⟩ := Option.map_eq_some_iff.mp (show (rowN t x).map (fun r => (r.c, r.f)) = some (c, fo) from e)
    cases e2
    obtain ⟨rfl, Ca, b, h1, h2, h3, h4, h5, h6, h7⟩ := rowN_ok h x r e1
    exact ⟨Ca, h1, h4⟩
  · obtain ⟨q, e1, e2⟩ := Option.bind_eq_some_iff.mp (show ((rowC t c).bind fun r => match rowN t y with
      | some r' => some (decide (r.c = r'.c))
      | none => if bt.contains y then some (r.up.contains y) else none) = some r from e)
    obtain ⟨rfl, Ca, b, h1, h2, h3, h4, h5, h6, h7⟩ := rowC_ok h c q e1
    cases e3 : rowN t y with
    | some q' =>
      rw [e3] at e2
      obtain ⟨rfl, Cb, b', g1, g2, g3, g4, g5, g6, g7⟩ := rowN_ok h y q' e3
      refine ⟨Ca, b, .ref Cb, .ref Cb, h1, h3, .own Cb, rfl, .inl g5, ?_⟩
      rw [kit_own h2 h3 g3, ← Option.some.inj e2, h1, g1]
      congr 1
      exact decide_eq_decide.mpr ⟨fun z => by rw [z], fun z => Int.ofNat.inj z⟩
    | none =>
      rw [e3] at e2
      simp only at e2
      split at e2
      · rename_i hy
        have hm : y ∈ bt := List.contains_iff_mem.mp hy
        obtain ⟨T, t1, t2, t3, t4⟩ := h7 y hm
        refine ⟨Ca, b, .ty T, .type T, h1, h3, .ty T, rfl, .inr ⟨allB_mem hb y hm, t1, t2⟩, ?_⟩
        rw [kit_blt h3 t3, ← Option.some.inj e2, t4]
      · cases e2
  · have e' : (match rowC t c with | some r => r.f == some f | none => false) = true := e
    cases e1 : rowC t c with
    | none => rw [e1] at e'; cases e'
    | some r =>
      rw [e1] at e'
      obtain ⟨rfl, Ca, b, h1, h2, h3, h4, h5, h6, h7⟩ := rowC_ok h c r e1
      exact ⟨Ca, b, h1, h3, h6 f (eq_of_beq e')⟩
theorem glOk_of {k : Nat} {tb : List (Str × Nat × List Str × Fn)} {gt : List (Str × D)} {bl : List Str} {ex : Exs} (h1 : AllB mg bl) (h2 : AllGl K mg gt) (h3 : AllAt P w K mg base k tb) (h4 : ExOk P w K mg base k ex) : GlOk P w K mg base k (fnsOf tb) (glOf gt) (gdOf []) (bltOf bl) ex :=
  ⟨allB_ok h1, allGl_ok h2, (fun x kvs e => by cases e), allAt_ok h3, h4⟩
/-- a def without defaults -/
theorem ok_of {k n wf : Nat} {x : Str} {st : Stmt} {N ps : List Str} {tb : List (Str × Nat × List Str × Fn)} {gt : List (Str × D)} {bl : List Str} {ex : Exs} {cb : Nat → S → Res Fl} {sig : List Bool} {h : Heap} (X : K.In h) (G : h.Ns mainGlobals mg) (H : Has K x st [])
    (Sc : FnScope N ps (defScope st)) (h1 : AllB mg bl) (h2 : AllGl K mg gt) (h3 : AllAt P w K mg base k tb) (h4 : ExOk P w K mg base k ex) (hl : sig.length = ps.length) (hN : ps.length ≤ N.length)
    (hb : ∀ wf, seqS (EX ⟨N, defScope st, fnsOf tb, glOf gt, gdOf [], bltOf bl, wf, fun _ => true, ex⟩ n) (defBody st) = cb wf)
    (hbind : ∀ (kV doc pm : Value) (an : Option Addr) (cdv ct : Value) (us : List Value), us.length = ps.length → bindArgs (PySem.W.fnOf x x (defArgs st) (defBody st) (defScope st) .none kV doc pm an cdv ct) ⟨us, []⟩ = pure (ps.zip us)) :
    Ok P w K mg base (k + 1) x ps.length (mkF N.length sig (cb wf)) := by
  obtain ⟨f, fd, a, F⟩ := H
  exact ⟨f, fd, ps, PySem.W.mg_of X G a, F.kp, fn_okC F Sc (glOk_of h1 h2 h3 h4) hl hN hb, F.bindsN hbind, hl⟩
/-- the law's own def -/
theorem law_of {k n wf : Nat} {x : Str} {st : Stmt} {N : List Str} {p : Str} {tb : List (Str × Nat × List Str × Fn)} {gt : List (Str × D)} {bl : List Str} {ex : Exs} {cb : Nat → S → Res Fl} {h : Heap} {fa : Addr} (X : K.In h) (G : h.Ns mainGlobals mg) (hfa : mg x = some (.ref fa)) (H : Has K x st [])
    (Sc : FnScope N [p] (defScope st)) (h1 : AllB mg bl) (h2 : AllGl K mg gt) (hN : 1 ≤ N.length)
    (hb : ∀ wf, seqS (EX ⟨N, defScope st, fnsOf tb, glOf gt, gdOf [], bltOf bl, wf, fun _ => true, ex⟩ n) (defBody st) = cb wf)
    (hbind : ∀ (kV doc pm : Value) (an : Option Addr) (cdv ct : Value) (us : List Value), us.length = [p].length → bindArgs (PySem.W.fnOf x x (defArgs st) (defBody st) (defScope st) .none kV doc pm an cdv ct) ⟨us, []⟩ = pure ([p].zip us)) 
    (h3 : ∀ base : Heap, K.In base → base.Ns mainGlobals mg → AllAt P w K mg base k tb ∧ ExOk P w K mg base k ex) :
    ∃ fd : FuncData, (∀ (s : Shared) (v : Value), BindsTo s fd ⟨[v], []⟩ [(p, v)]) ∧ ∀ base : Heap, K.In base → base.Ns mainGlobals mg → FnOk P w K mg base CX0 (k + 1) fa fd [p] (spF K (mkF N.length [false] (cb wf))) := by
  obtain ⟨f, fd, a, F⟩ := H
  have e := hfa.symm.trans (PySem.W.mg_of X G a)
  cases e
  exact ⟨fd, fun s v => F.bindsA hbind s [v] rfl, fun base X' G' => fn_okC F Sc (glOk_of h1 h2 (h3 base X' G').1 (h3 base X' G').2) rfl hN hb⟩
theorem ok_none {x : Str} {st : Stmt} {ps : List Str} {sig : List Bool} {h : Heap} (X : K.In h) (G : h.Ns mainGlobals mg) (H : Has K x st []) (hl : sig.length = ps.length)
    (hbind : ∀ (kV doc pm : Value) (an : Option Addr) (cdv ct : Value) (us : List Value), us.length = ps.length → bindArgs (PySem.W.fnOf x x (defArgs st) (defBody st) (defScope st) .none kV doc pm an cdv ct) ⟨us, []⟩ = pure (ps.zip us)) :
    Ok P w K mg base 0 x ps.length ⟨sig, fun _ _ => none⟩ := by
  obtain ⟨f, fd, a, F⟩ := H
  have no : ∀ vs H Q E, ¬ spF K ⟨sig, fun _ _ => none⟩ vs H Q E := fun vs H Q E h => by
    obtain ⟨I, ds, bs, cs, ff, r, cs', h1, h2, h3, h4, h5, h6, h7⟩ := h
    cases h6
  exact ⟨f, fd, ps, PySem.W.mg_of X G a, F.kp, ⟨fun vs H Q E h => absurd h (no vs H Q E), fun A outer s H args us vs Q E _ _ _ _ h => absurd h (no vs H Q E)⟩, F.bindsN hbind, hl⟩
theorem dt_ints {I : Hp} : ∀ ns : List Int, DtAll K I (ns.map V.int) (ns.map PyData.int)
  | [] => .nil
  | n :: r => .cons (.int n) (dt_ints r)
/-- the law, asked with a script -/
theorem sp_law {fn : Fn} {H : Hp} {a : Addr} {ns : List Int} {E : XK} (hs : fn.sig = [false]) (hS : SqL K H a (ns.map V.int)) (hr : fn.run [.list (ns.map .int)] [] = some (.val (.d (.bool true)) [])) : spF K fn [.ref a] H (fun v _ => v = .bl true) E := by
  refine ⟨H, [.list (ns.map .int)], [], [], [], .d (.bool true), [], ?_, fun _ _ h => h, .nil, List.nodup_nil, (fun a ha => by cases ha), hr, fun v I' H' fg _ _ _ _ hv _ _ => ?_⟩
  · rw [hs]
    exact .dat (.lst hS (dt_ints ns)) .nil
  · cases hv with
    | cons h t =>
      cases h with
      | d h => cases h; rfl
/-! ### globals -/
theorem gl_int {x : Str} {i : Int} {t : Tok} {r : List (Str × D)} {h : Heap} (X : K.In h) (G : h.Ns mainGlobals mg) (a : PySem.W.nsIn K mainGlobals x = some (some (.int i t))) (rest : AllGl K mg r) : AllGl K mg ((x, .int i) :: r) :=
  ⟨⟨.int i, .int i t, PySem.W.mg_of X G a, ⟨t, rfl⟩, fun I => .int i⟩, rest⟩
theorem up_nil {b : Ba} {up : List Str} : UpOk b up [] := fun y hy => by cases hy
theorem up_cons {b : Ba} {up r : List Str} {y : Str} {T : String} (h1 : bootBuiltins y = some (.type T)) (h2 : y ≠ "__name__") (h3 : PySem.W.kitMeta T = true) (h4 : up.contains y = b.m.contains (.type T)) (h : UpOk b up r) : UpOk b up (y :: r) := fun z hz => by
  rcases List.mem_cons.mp hz with rfl | hz
  · exact ⟨T, h1, h2, h3, h4⟩
  · exact h z hz
theorem ex_row {bt : List Str} {r : ExRow} {t : List ExRow} {C : Addr} {b : Ba} (hc : r.c = (C : Int)) (ok : BaOk b) (h : ExC K C b ∧ ExM P w K mg base r.nm C r.f ∧ mg r.nm = some (.ref C)) (hf : ∀ f, r.f = some f → PySem.W.findIn K (.ref C) f = some none) (u : UpOk b r.up bt) (rest : AllEx P w K mg base bt t) : AllEx P w K mg base bt (r :: t) :=
  ⟨⟨C, b, hc, ok, h.1, h.2.1, h.2.2, hf, u⟩, rest⟩
theorem gl_i {x : Str} {i : Int} {t : Tok} {h : Heap} (X : K.In h) (G : h.Ns mainGlobals mg) (a : PySem.W.nsIn K mainGlobals x = some (some (.int i t))) : ∃ v u, mg x = some u ∧ RelV v u ∧ ∀ I, Dt K I v (.int i) := ⟨.int i, .int i t, PySem.W.mg_of X G a, ⟨t, rfl⟩, fun I => .int i⟩
/-- a tuple of texts of the module -/
inductive StrsAre : List D → List V → List Value → Prop where
  | nil : StrsAre [] [] []
  | cons {x : Str} {t : Tok} {ds : List D} {vs : List V} {us : List Value} : StrsAre ds vs us → StrsAre (.str x :: ds) (.str x :: vs) (.str x t :: us)
theorem StrsAre.dt (K : PySem.W.Frag) (I : Hp) : ∀ {ds : List D} {vs : List V} {us : List Value}, StrsAre ds vs us → DtAll K I vs ds ∧ Vals vs us
  | _, _, _, .nil => ⟨.nil, .nil⟩
  | _, _, _, .cons h => ⟨.cons (.str _) (StrsAre.dt K I h).1, .cons ⟨_, rfl⟩ (StrsAre.dt K I h).2⟩
theorem gl_t {x : Str} {ds : List D} {vs : List V} {T : Addr} {dd : Option Addr} {its : Array Value} {n : Nat} {sl : Array (Option Value)} {h : Heap} (X : K.In h) (G : h.Ns mainGlobals mg) (a : PySem.W.nsIn K mainGlobals x = some (some (.ref T))) (l : K.lookup T = some ⟨.type "tuple", dd, .seq its n, sl⟩) (v : StrsAre ds vs its.toList) (z : its.size ≤ sizeLine) :
    ∃ v u, mg x = some u ∧ RelV v u ∧ ∀ I, Dt K I v (.tuple ds) := ⟨.ref T, .ref T, PySem.W.mg_of X G a, rfl, fun I => .tup (.inr ⟨_, its, n, l, rfl, rfl, z, (v.dt K I).2⟩) (v.dt K I).1⟩
/-! ### own exception classes -/
def inS (st : Stmt) : Stmt := match st with
  | .ClassDef _ _ _ body _ _ _ _ _ _ _ => body.getD 0 (.Pass ⟨0, 0, 0, 0⟩)
  | s => s
def ExHas (K : PySem.W.Frag) (x q : Str) (st : Stmt) (C : Addr) (b : Ba) : Prop := ∃ (fI : Addr) (fd : FuncData), PySem.W.nsIn K mainGlobals x = some (some (.ref C)) ∧ ExC K C b ∧ PySem.W.findIn K (.ref C) "__init__" = some (some (.ref fI)) ∧ PySem.W.typeIn K (.ref fI) = some (.type "function") ∧
  FunD K "__init__" q (defArgs st) (defBody st) (defScope st) [] [] fI fd
theorem exhas_mk {x q : Str} {st : Stmt} {C fI : Addr} {b : Ba} {oc : Value} {od an : Option Addr} {osl : Array (Option Value)} {kV doc pm cdv ct : Value} (a : PySem.W.nsIn K mainGlobals x = some (some (.ref C))) (e : exB K C b = true) (i : PySem.W.findIn K (.ref C) "__init__" = some (some (.ref fI))) (t : PySem.W.typeIn K (.ref fI) = some (.type "function"))
    (l : K.lookup fI = some ⟨oc, od, .func (PySem.W.fnOf "__init__" q (defArgs st) (defBody st) (defScope st) .none kV doc pm an cdv ct), osl⟩) (c : PySem.W.codeIn K cdv q = true) (k : PySem.W.keepIn K (.ref fI) = true) : ExHas K x q st C b :=
  ⟨fI, _, a, exB_ok e, i, t, ⟨⟨oc, od, .none, kV, doc, pm, an, cdv, ct, osl, rfl, l, c, .inl ⟨rfl, rfl⟩, .inl rfl⟩, k⟩⟩
theorem binds_pure {x q : Str} {st : Stmt} {f : Addr} {fd : FuncData} {us : List Value} {kw r : List (Str × Value)} (F : FunD K x q (defArgs st) (defBody st) (defScope st) [] [] f fd)
    (hb : ∀ (kV doc pm : Value) (an : Option Addr) (cdv ct : Value), bindArgs (PySem.W.fnOf x q (defArgs st) (defBody st) (defScope st) .none kV doc pm an cdv ct) ⟨us, kw⟩ = pure r) (s : Shared) : BindsTo s fd ⟨us, kw⟩ r := by
  obtain ⟨oc, od, dV, kV, doc, pm, an, cdv, ct, osl, rfl, lk, hcd, hD, hK⟩ := F.ex
  rcases hD with ⟨_, rfl⟩ | ⟨z, _⟩
  · exact BindsTo.of_looks fun M => PySem.W.Looks.of_pure (hb kV doc pm an cdv ct)
  · exact absurd rfl z
theorem ex_of {x q B f : Str} {st : Stmt} {C : Addr} {b : Ba} {kk : Nat} {p0 p1 p2 p3 p4 p5 p6 p7 p8 p9 : Pos} {h : Heap} (X : K.In h) (G : h.Ns mainGlobals mg) (ok : BaOk b) (H : ExHas K x q st C b) (eB : B = Str.ofString b.B) (mB : mg B = none)
    (vV : PySem.W.findCls K (.type b.B) (.type "type") "__init__" = some (.val (.builtin b.ini))) (hno : PySem.W.findIn K (.ref C) f = some none) (hbd : defBody st = iniBody B f kk p0 p1 p2 p3 p4 p5 p6 p7 p8 p9) (Sc : FnScope ["self", f] ["self", f] (defScope st)) (gB : (defScope st).names.lookup B = some .globalImplicit)
    (l0 : (defScope st).names.lookup ("self" : Str) = some .local) (l1 : (defScope st).names.lookup f = some .local) (hc : IniWay B kk p0 p1 p2 p3 p4) (nn : (B ≠ "__name__" ∧ (B == ("__debug__" : Str)) = false) ∧ (f == ("__debug__" : Str)) = false ∧ (f == ("__classdict__" : Str)) = false)
    (h1 : ∀ (kV doc pm : Value) (an : Option Addr) (cdv ct : Value) (a : Addr) (u : Value), bindArgs (PySem.W.fnOf "__init__" q (defArgs st) (defBody st) (defScope st) .none kV doc pm an cdv ct) ⟨[.ref a, u], []⟩ = pure [(("self" : Str), Value.ref a), (f, u)])
    (h2 : ∀ (kV doc pm : Value) (an : Option Addr) (cdv ct : Value) (a : Addr) (u : Value), bindArgs (PySem.W.fnOf "__init__" q (defArgs st) (defBody st) (defScope st) .none kV doc pm an cdv ct) ⟨[.ref a], [(f, u)]⟩ = pure [(("self" : Str), Value.ref a), (f, u)]) :
    ExC K C b ∧ ExM P w K mg base x C (some f) ∧ mg x = some (.ref C) := by
  obtain ⟨fI, fd, a, T, i, t, F⟩ := H
  have m := PySem.W.mg_of X G a
  have F' := F
  rw [hbd] at F'
  exact ⟨T, .one ok T m i t (ini_ok ok T F' Sc eB gB l0 l1 mB vV hno hc nn.1.1 nn.1.2 nn.2.1 nn.2.2) (fun s a u _ => binds_pure F (fun _ _ _ _ _ _ => h1 _ _ _ _ _ _ a u) s) (fun s a u _ => binds_pure F (fun _ _ _ _ _ _ => h2 _ _ _ _ _ _ a u) s), m⟩
theorem ex_of0 {x q B : Str} {st : Stmt} {C : Addr} {b : Ba} {kk : Nat} {p0 p1 p2 p3 p4 p5 : Pos} {h : Heap} (X : K.In h) (G : h.Ns mainGlobals mg) (ok : BaOk b) (H : ExHas K x q st C b) (eB : B = Str.ofString b.B) (mB : mg B = none)
    (vV : PySem.W.findCls K (.type b.B) (.type "type") "__init__" = some (.val (.builtin b.ini))) (hbd : defBody st = [iniCall B kk p0 p1 p2 p3 p4 p5]) (Sc : FnScope ["self"] ["self"] (defScope st)) (gB : (defScope st).names.lookup B = some .globalImplicit)
    (l0 : (defScope st).names.lookup ("self" : Str) = some .local) (hc : IniWay B kk p0 p1 p2 p3 p4) (nn : B ≠ "__name__" ∧ (B == ("__debug__" : Str)) = false)
    (h1 : ∀ (kV doc pm : Value) (an : Option Addr) (cdv ct : Value) (a : Addr), bindArgs (PySem.W.fnOf "__init__" q (defArgs st) (defBody st) (defScope st) .none kV doc pm an cdv ct) ⟨[.ref a], []⟩ = pure [(("self" : Str), Value.ref a)]) :
    ExC K C b ∧ ExM P w K mg base x C none ∧ mg x = some (.ref C) := by
  obtain ⟨fI, fd, a, T, i, t, F⟩ := H
  have m := PySem.W.mg_of X G a
  have F' := F
  rw [hbd] at F'
  exact ⟨T, .non ok T m i t (ini_ok0 ok T F' Sc eB gB l0 mB vV hc nn.1 nn.2) (fun s a _ => binds_pure F (fun _ _ _ _ _ _ => h1 _ _ _ _ _ _ a) s), m⟩
end
end Nw
end

set_option Elab.async false
set_option linter.all false
set_option maxRecDepth 100000
set_option maxHeartbeats 4000000
noncomputable section
namespace Nw
open PySem L2 PySem.Spec

/-! ### what all laws draw by -/
def p_dip : S → Res Fl := sq [
    bnd (bnd (bnd (pkS 1) fun _ => bnd (dat (bnd (pkS 0) fun c => lift ((lenD c).map T.d))) fun y => bnd (pkS 1) fun x => lift (cmpD .Lt x y)) fun k => if k then (subM (plS (pl0 0) (kN 1)) (bnd (pkS 0) fun _ => bnd (dat (bnd (rdS 1) fun d => ret (.d d))) fun k => bnd (pkS 0) fun c => lift ((ixD c k).map T.d))) else (ret (.d (.int 0)))) fun t => bnd (setT 2 t) fun _ => ret .nx, 
    bnd (lstD [dat (bnd (dat (bnd (evD [dat (bnd (rdS 2) fun d => ret (.d d))]) fun ds => lift (bltD "abs" ds))) fun x => bnd (dat (bnd (evD [dat (bnd (bnd (dat (bnd (evD [dat (bnd (rdS 2) fun d => ret (.d d))]) fun ds => lift (bltD "abs" ds))) fun x => bnd (dat (bnd (dat (ret (.d (.int 10)))) fun x => bnd (dat (ret (.d (.int 18)))) fun y => lift (binD .Pow x y))) fun y => lift (cmpD .GtE x y)) fun k => ret (.d (.bool k)))]) fun ds => lift (bltD "int" ds))) fun y => lift (binD .Mult x y)), dat (bnd (dat (bnd (dat (bnd (pkS 2) fun _ => bnd (dat (ret (.d (.int 2305843009213693951)))) fun y => bnd (pkS 2) fun x => lift (binD .Mod x y))) fun x => bnd (dat (bnd (dat (ret (.d (.int 39373)))) fun x => bnd (pkS 1) fun y => lift (binD .Mult x y))) fun y => lift (binD .Add x y))) fun x => bnd (dat (ret (.d (.int 17)))) fun y => lift (binD .Add x y)), dat (ret (.d (.int 0)))]) fun t => ret (.rt t)]
def p_take : S → Res Fl := sq [
    bnd (bnd (dat (subM (plS (pl0 0) (kI 0)) (bnd (pkS 0) fun _ => bnd (dat (ret (.d (.int 0)))) fun k => bnd (pkS 0) fun c => lift ((ixD c k).map T.d)))) fun x => bnd (dat (ret (.d (.int 0)))) fun y => lift (cmpD .Gt x y)) fun k => if k then (sq [
    bnd (bnd (dat (subM (plS (pl0 0) (kI 0)) (bnd (pkS 0) fun _ => bnd (dat (ret (.d (.int 0)))) fun k => bnd (pkS 0) fun c => lift ((ixD c k).map T.d)))) fun x => bnd (pkS 1) fun y => lift (binD .Mod x y)) fun t => bnd (setT 2 t) fun _ => ret .nx, 
    bnd (dat (bnd (dat (subM (plS (pl0 0) (kI 0)) (bnd (pkS 0) fun _ => bnd (dat (ret (.d (.int 0)))) fun k => bnd (pkS 0) fun c => lift ((ixD c k).map T.d)))) fun x => bnd (pkS 1) fun y => lift (binD .FloorDiv x y))) fun d => bnd (bnd (pkS 0) fun _ => bnd (dat (ret (.d (.int 0)))) fun k => bnd (chP (0, []) (putD k (d))) fun _ => ret ()) fun _ => ret .nx, 
    bnd (outS 2) fun t => ret (.rt t)]) else (sq []), 
    bnd (dat (bnd (dat (subM (plS (pl0 0) (kI 2)) (bnd (pkS 0) fun _ => bnd (dat (ret (.d (.int 2)))) fun k => bnd (pkS 0) fun c => lift ((ixD c k).map T.d)))) fun x => bnd (dat (ret (.d (.int 1)))) fun y => lift (binD .Add x y))) fun d => bnd (bnd (pkS 0) fun _ => bnd (dat (ret (.d (.int 2)))) fun k => bnd (chP (0, []) (putD k (d))) fun _ => ret ()) fun _ => ret .nx, 
    bnd (bnd (dat (bnd (dat (bnd (dat (subM (plS (pl0 0) (kI 1)) (bnd (pkS 0) fun _ => bnd (dat (ret (.d (.int 1)))) fun k => bnd (pkS 0) fun c => lift ((ixD c k).map T.d)))) fun x => bnd (dat (bnd (dat (ret (.d (.int 39373)))) fun x => bnd (pkM (plS (pl0 0) (kI 2)) (dat (subM (plS (pl0 0) (kI 2)) (bnd (pkS 0) fun _ => bnd (dat (ret (.d (.int 2)))) fun k => bnd (pkS 0) fun c => lift ((ixD c k).map T.d))))) fun y => lift (binD .Mult x y))) fun y => lift (binD .Add x y))) fun x => bnd (dat (ret (.d (.int 5)))) fun y => lift (binD .Pow x y))) fun x => bnd (dat (ret (.d (.int 2147483647)))) fun y => lift (binD .Mod x y)) fun t => bnd (setT 3 t) fun _ => ret .nx, 
    bnd (bnd (dat (bnd (dat (bnd (dat (bnd (pkS 3) fun _ => bnd (pkM (plS (pl0 0) (kI 2)) (dat (subM (plS (pl0 0) (kI 2)) (bnd (pkS 0) fun _ => bnd (dat (ret (.d (.int 2)))) fun k => bnd (pkS 0) fun c => lift ((ixD c k).map T.d))))) fun y => bnd (pkS 3) fun x => lift (binD .Add x y))) fun x => bnd (dat (bnd (dat (subM (plS (pl0 0) (kI 1)) (bnd (pkS 0) fun _ => bnd (dat (ret (.d (.int 1)))) fun k => bnd (pkS 0) fun c => lift ((ixD c k).map T.d)))) fun x => bnd (dat (ret (.d (.int 1000003)))) fun y => lift (binD .FloorDiv x y))) fun y => lift (binD .Add x y))) fun x => bnd (dat (bnd (dat (bnd (dat (bnd (pkS 3) fun _ => bnd (dat (ret (.d (.int 40009)))) fun y => bnd (pkS 3) fun x => lift (binD .Mod x y))) fun x => bnd (dat (ret (.d (.int 7)))) fun y => lift (binD .Add x y))) fun x => bnd (pkM (plS (pl0 0) (kI 2)) (dat (subM (plS (pl0 0) (kI 2)) (bnd (pkS 0) fun _ => bnd (dat (ret (.d (.int 2)))) fun k => bnd (pkS 0) fun c => lift ((ixD c k).map T.d))))) fun y => lift (binD .Add x y))) fun y => lift (binD .Mult x y))) fun x => bnd (dat (ret (.d (.int 2147483629)))) fun y => lift (binD .Mod x y)) fun t => bnd (setT 4 t) fun _ => ret .nx, 
    bnd (bnd (dat (bnd (dat (bnd (dat (bnd (dat (bnd (pkS 4) fun _ => bnd (dat (ret (.d (.int 48271)))) fun y => bnd (pkS 4) fun x => lift (binD .Mult x y))) fun x => bnd (pkS 3) fun y => lift (binD .Add x y))) fun x => bnd (dat (ret (.d (.int 2147483587)))) fun y => lift (binD .Mod x y))) fun x => bnd (dat (ret (.d (.int 64)))) fun y => lift (binD .FloorDiv x y))) fun x => bnd (pkS 1) fun y => lift (binD .Mod x y)) fun t => ret (.rt t)]
def p_fbody : S → Res Fl := sq [
    bnd (dat (bnd (dat (bnd (pkS 2) fun _ => bnd (dat (bnd (pkS 3) fun _ => bnd (pkS 1) fun y => bnd (pkS 3) fun x => lift (binD .Mod x y))) fun k => bnd (pkS 2) fun c => lift ((ixD c k).map T.d))) fun x => bnd (dat (bnd (pkS 4) fun _ => bnd (dat (bnd (pkS 3) fun _ => bnd (dat (ret (.d (.int 2)))) fun y => bnd (pkS 3) fun x => lift (binD .Add x y))) fun y => bnd (pkS 4) fun x => lift (binD .Mult x y))) fun y => lift (binD .Add x y))) fun d => bnd (bnd (pkS 2) fun _ => bnd (dat (bnd (pkS 3) fun _ => bnd (pkS 1) fun y => bnd (pkS 3) fun x => lift (binD .Mod x y))) fun k => bnd (chP (2, []) (putD k (d))) fun _ => ret ()) fun _ => ret .nx]
def p_folded : S → Res Fl := sq [
    bnd (bnd (dat (bnd (pkS 0) fun _ => bnd (ret none) fun l => bnd (bnd (dat (bnd (rdS 1) fun d => ret (.d d))) fun d => lift ((intD d).map some)) fun h => bnd (pkS 0) fun c => lift (sliceD c l h))) fun c => lift ((seqD c).map fun ds => .l (ds.map T.d))) fun t => bnd (setT 2 t) fun _ => ret .nx, 
    bnd (bnd (dat (bnd (pkS 0) fun _ => bnd (bnd (dat (bnd (rdS 1) fun d => ret (.d d))) fun d => lift ((intD d).map some)) fun l => bnd (bnd (dat (ret (.d (.int 63)))) fun d => lift ((intD d).map some)) fun h => bnd (pkS 0) fun c => lift (sliceD c l h))) fun d => lift (enumD d)) fun ds => forL (fun x => asgTup [fun y => setT 3 (.d (y)), fun y => setT 4 (.d (y))] (x)) p_fbody ds, 
    bnd (outS 2) fun t => ret (.rt t)]
def fDip : Fn := mkF 3 [false, false] p_dip
def fTake : Fn := mkF 5 [true, false] p_take
def fFolded : Fn := mkF 5 [false, false] p_folded

/-! ### numbers -/
theorem log_lt {i n : Nat} (h : i < 2 ^ n) (hn : 0 < n) : i.log2 < n := by
  by_cases h0 : i = 0
  · subst h0; rw [Nat.log2_zero]; exact hn
  · exact (Nat.log2_lt h0).mpr h
theorem log_n {n : Int} (h : 0 < n) (h' : n ≤ 2 ^ 60) (i : Int) : CDivW i n := ⟨h, Nat.lt_of_lt_of_le (log_lt (n := 61) (by omega) (by decide)) (by decide)⟩
theorem as_nat {v n : Int} (h : 0 ≤ v) (h' : v < n) : ∃ j : Nat, v = (j : Int) ∧ (j : Int) < n := ⟨v.toNat, by omega, by omega⟩
/-! ### the box of draws -/
structure Bx where
  a : Int
  b : Int
  c : Int
def bx (b : Bx) : T := .l [.d (.int b.a), .d (.int b.b), .d (.int b.c)]
structure BxOk (m : Nat) (x : Bx) : Prop where
  a : 0 ≤ x.a
  b : 0 ≤ x.b
  b' : x.b < 2 ^ 62
  c : 0 ≤ x.c
  c' : x.c ≤ (m : Int)
theorem BxOk.mono {m n : Nat} {b : Bx} (h : BxOk m b) (hn : m ≤ n) : BxOk n b := ⟨h.a, h.b, h.b', h.c, by have := h.c'; omega⟩
theorem noP_bx (b : Bx) : noP (bx b) = true := rfl
theorem put0 (x y z d : D) (g : List Sl) : chP (0, []) (putD (.int 0) d) ⟨.bor 0 :: g, [some (.l [.d x, .d y, .d z])]⟩ = .ok .none ⟨.bor 0 :: g, [some (.l [.d d, .d y, .d z])]⟩ := rfl
theorem put2 (x y z d : D) (g : List Sl) : chP (0, []) (putD (.int 2) d) ⟨.bor 0 :: g, [some (.l [.d x, .d y, .d z])]⟩ = .ok .none ⟨.bor 0 :: g, [some (.l [.d x, .d y, .d d])]⟩ := rfl
theorem ev_take {m : Nat} {b : Bx} (hb : BxOk m b) (hm : m < 2 ^ 20) {n : Int} (hn : 0 < n) (hn' : n ≤ 2 ^ 60) : ∃ (j : Nat) (b' : Bx), (j : Int) < n ∧ BxOk (m + 1) b' ∧ fTake.run [.int n] [bx b] = some (.val (.d (.int (j : Nat))) [bx b']) := by
  have dn := log_n hn hn'
  by_cases h : 0 < b.a
  · obtain ⟨j, ej, hj⟩ := as_nat (Int.emod_nonneg b.a (Int.ne_of_gt hn)) (Int.emod_lt_of_pos b.a hn)
    refine ⟨j, ⟨b.a / n, b.b, b.c⟩, hj, ⟨Int.ediv_nonneg hb.a (Int.le_of_lt hn), hb.b, hb.b', hb.c, by have := hb.c'; show b.c ≤ _; omega⟩, ?_⟩
    refine run_mkF (s' := ⟨[.bor 0, .v (.d (.int n)), .un, .un, .un], [some (.l [.d (.int (b.a / n)), .d (.int b.b), .d (.int b.c)])]⟩) ?_ rfl rfl
    unfold bx
    simp only [p_take, Nw.startS, Nw.startG, ↓Nw.e_sq, ↓Nw.e_sq0, ↓Nw.bnd_ap, ↓Nw.e_ret, ↓Nw.e_some, ↓Nw.e_dat, ↓Nw.e_evD0, ↓Nw.e_evD, ↓Nw.e_evT0, ↓Nw.e_evT, ↓Nw.e_tupM, ↓Nw.e_lstM, ↓Nw.e_lstD, ↓Nw.e_args0, ↓Nw.e_argsD, ↓Nw.e_argsC, Nw.rdS, Nw.pkS, Nw.root, Nw.vw, Nw.dts, Nw.cellOf, Nw.fz_d, Nw.fz_l', Nw.fzs_n, Nw.fzs_c, Nw.fzs_d, Nw.e_setT, Nw.e_add, Nw.e_sub, Nw.e_mul, Nw.e_div, Nw.e_mod, Nw.e_pow, Nw.e_and, Nw.e_app, Nw.e_adda, Nw.e_suba, Nw.e_mula, Nw.e_diva, Nw.e_lt, Nw.e_le, Nw.e_gt, Nw.e_ge, Nw.e_eq, Nw.e_ne, Nw.e_eqb, Nw.e_neb, Nw.e_neg, Nw.e_trb, Nw.e_bool, Nw.e_int, Nw.e_ixt, Nw.e_ixl, Nw.at_z, Nw.at_o, Nw.at_t, Nw.subM, Nw.pkM, Nw.plS, Nw.pl0, Nw.kI, Nw.kN, Nw.kS, Nw.getAt, Nw.getP, Nw.outS, List.length_cons, List.length_nil, List.cons_append, List.nil_append, List.append_nil, List.replicate_succ, List.replicate_zero, List.getElem?_cons_zero, List.getElem?_cons_succ, List.set_cons_succ, List.set_cons_zero, Nat.reduceSub, Nat.reduceAdd, Option.bind_some, Option.map_some, if_true, if_false, decide_true, decide_false, Bool.false_eq_true, Bool.not_true, Bool.not_false, if_pos, List.map_cons, List.map_nil, h, hn, dn, ej, put0]
  · have p1 := hb.b
    have p2 := hb.b'
    have p3 := hb.c
    have p4 := hb.c'
    have q1 : CPow (b.b + 39373 * (b.c + 1)) 5 := ⟨by decide, by decide, by omega⟩
    have q2 : ∀ x, CMul 39373 x ∨ CMulW 39373 x := fun x => .inl (.inl ⟨by decide, by decide⟩)
    have q3 : ∀ x, CMul x 48271 ∨ CMulW x 48271 := fun x => .inl (.inr ⟨by decide, by decide⟩)
    have q4 : ∀ x y, CMul y (x % 40009 + 7 + (b.c + 1)) ∨ CMulW y (x % 40009 + 7 + (b.c + 1)) := fun x y => .inl (.inr (by
      have := Int.emod_nonneg x (show (40009 : Int) ≠ 0 by decide)
      have := Int.emod_lt_of_pos x (show (0 : Int) < 40009 by decide)
      constructor <;> omega))
    have d1 : ∀ i, CDivW i 1000003 := log_n (by decide) (by decide)
    have d2 : ∀ i, CDivW i 64 := log_n (by decide) (by decide)
    have m1 : (0 : Int) < 2147483647 := by decide
    have m2 : (0 : Int) < 40009 := by decide
    have m3 : (0 : Int) < 2147483629 := by decide
    have m4 : (0 : Int) < 2147483587 := by decide
    generalize hA : (b.b + 39373 * (b.c + 1)) ^ (5 : Int).toNat % 2147483647 = A
    generalize hC : ((A + (b.c + 1)) + b.b / 1000003) * (A % 40009 + 7 + (b.c + 1)) % 2147483629 = C
    obtain ⟨j, ej, hj⟩ := as_nat (Int.emod_nonneg ((C * 48271 + A) % 2147483587 / 64) (Int.ne_of_gt hn)) (Int.emod_lt_of_pos ((C * 48271 + A) % 2147483587 / 64) hn)
    refine ⟨j, ⟨b.a, b.b, b.c + 1⟩, hj, ⟨hb.a, hb.b, hb.b', by show (0 : Int) ≤ b.c + 1; omega, by show b.c + 1 ≤ ((m + 1 : Nat) : Int); omega⟩, ?_⟩
    refine run_mkF (s' := ⟨[.bor 0, .v (.d (.int n)), .un, .v (.d (.int A)), .v (.d (.int C))], [some (.l [.d (.int b.a), .d (.int b.b), .d (.int (b.c + 1))])]⟩) ?_ rfl rfl
    unfold bx
    simp only [p_take, Nw.startS, Nw.startG, ↓Nw.e_sq, ↓Nw.e_sq0, ↓Nw.bnd_ap, ↓Nw.e_ret, ↓Nw.e_some, ↓Nw.e_dat, ↓Nw.e_evD0, ↓Nw.e_evD, ↓Nw.e_evT0, ↓Nw.e_evT, ↓Nw.e_tupM, ↓Nw.e_lstM, ↓Nw.e_lstD, ↓Nw.e_args0, ↓Nw.e_argsD, ↓Nw.e_argsC, Nw.rdS, Nw.pkS, Nw.root, Nw.vw, Nw.dts, Nw.cellOf, Nw.fz_d, Nw.fz_l', Nw.fzs_n, Nw.fzs_c, Nw.fzs_d, Nw.e_setT, Nw.e_add, Nw.e_sub, Nw.e_mul, Nw.e_div, Nw.e_mod, Nw.e_pow, Nw.e_and, Nw.e_app, Nw.e_adda, Nw.e_suba, Nw.e_mula, Nw.e_diva, Nw.e_lt, Nw.e_le, Nw.e_gt, Nw.e_ge, Nw.e_eq, Nw.e_ne, Nw.e_eqb, Nw.e_neb, Nw.e_neg, Nw.e_trb, Nw.e_bool, Nw.e_int, Nw.e_ixt, Nw.e_ixl, Nw.at_z, Nw.at_o, Nw.at_t, Nw.subM, Nw.pkM, Nw.plS, Nw.pl0, Nw.kI, Nw.kN, Nw.kS, Nw.getAt, Nw.getP, Nw.outS, List.length_cons, List.length_nil, List.cons_append, List.nil_append, List.append_nil, List.replicate_succ, List.replicate_zero, List.getElem?_cons_zero, List.getElem?_cons_succ, List.set_cons_succ, List.set_cons_zero, Nat.reduceSub, Nat.reduceAdd, Option.bind_some, Option.map_some, if_true, if_false, decide_true, decide_false, Bool.false_eq_true, Bool.not_true, Bool.not_false, if_pos, List.map_cons, List.map_nil, h, hn, dn, put2, q1, q2, q3, q4, d1, d2, m1, m2, m3, m4, hA, hC, ej]
/-! ### the box at the start -/
theorem size3 : (3 : Nat) ≤ sizeLine := by decide
theorem getP0 (t : T) : getP t [] = some t := by cases t <;> rfl
theorem ev_dip {cs : List Int} {k : Nat} (hk : k ≤ 4) : ∃ b : Bx, BxOk 0 b ∧ fDip.run [.list (cs.map .int), .int (k : Nat)] [] = some (.val (bx b) []) := by
  obtain ⟨c, ec⟩ : ∃ (c : Int), (bnd (bnd (pkS 1) fun _ => bnd (dat (bnd (pkS 0) fun c => lift ((lenD c).map T.d))) fun y => bnd (pkS 1) fun x => lift (cmpD .Lt x y)) fun k => if k then (subM (plS (pl0 0) (kN 1)) (bnd (pkS 0) fun _ => bnd (dat (bnd (rdS 1) fun d => ret (.d d))) fun k => bnd (pkS 0) fun c => lift ((ixD c k).map T.d))) else (ret (.d (.int 0)))) ⟨[.v (.d (.list (cs.map .int))), .v (.d (.int (k : Nat))), .un], []⟩ = .ok (.d (.int c)) ⟨[.v (.d (.list (cs.map .int))), .v (.d (.int (k : Nat))), .un], []⟩ := by
    by_cases hl : k < cs.length
    · refine ⟨cs[k], ?_⟩
      have q : decide ((k : Int) < ((cs.map PyData.int).length : Nat)) = true := by rw [List.length_map]; exact decide_eq_true (by omega)
      simp only [Nw.startS, Nw.startG, ↓Nw.e_sq, ↓Nw.e_sq0, ↓Nw.bnd_ap, ↓Nw.e_ret, ↓Nw.e_some, ↓Nw.e_dat, ↓Nw.e_evD0, ↓Nw.e_evD, ↓Nw.e_evT0, ↓Nw.e_evT, ↓Nw.e_tupM, ↓Nw.e_lstM, ↓Nw.e_lstD, ↓Nw.e_args0, ↓Nw.e_argsD, ↓Nw.e_argsC, Nw.rdS, Nw.pkS, Nw.root, Nw.vw, Nw.dts, Nw.cellOf, Nw.fz_d, Nw.fz_l', Nw.fzs_n, Nw.fzs_c, Nw.fzs_d, Nw.e_setT, Nw.e_add, Nw.e_sub, Nw.e_mul, Nw.e_div, Nw.e_mod, Nw.e_pow, Nw.e_and, Nw.e_app, Nw.e_adda, Nw.e_suba, Nw.e_mula, Nw.e_diva, Nw.e_lt, Nw.e_le, Nw.e_gt, Nw.e_ge, Nw.e_eq, Nw.e_ne, Nw.e_eqb, Nw.e_neb, Nw.e_neg, Nw.e_trb, Nw.e_bool, Nw.e_int, Nw.e_ixt, Nw.e_ixl, Nw.at_z, Nw.at_o, Nw.at_t, Nw.subM, Nw.pkM, Nw.plS, Nw.pl0, Nw.kI, Nw.kN, Nw.kS, Nw.getAt, Nw.getP, Nw.outS, List.length_cons, List.length_nil, List.cons_append, List.nil_append, List.append_nil, List.replicate_succ, List.replicate_zero, List.getElem?_cons_zero, List.getElem?_cons_succ, List.set_cons_succ, List.set_cons_zero, Nat.reduceSub, Nat.reduceAdd, Option.bind_some, Option.map_some, if_true, if_false, decide_true, decide_false, Bool.false_eq_true, Bool.not_true, Bool.not_false, if_pos, List.map_cons, List.map_nil, lenD, q, at_nat (cs.map PyData.int) k (by rw [List.length_map]; exact hl), List.getElem_map]
    · refine ⟨0, ?_⟩
      have q : decide ((k : Int) < ((cs.map PyData.int).length : Nat)) = false := by rw [List.length_map]; exact decide_eq_false (by omega)
      simp only [Nw.startS, Nw.startG, ↓Nw.e_sq, ↓Nw.e_sq0, ↓Nw.bnd_ap, ↓Nw.e_ret, ↓Nw.e_some, ↓Nw.e_dat, ↓Nw.e_evD0, ↓Nw.e_evD, ↓Nw.e_evT0, ↓Nw.e_evT, ↓Nw.e_tupM, ↓Nw.e_lstM, ↓Nw.e_lstD, ↓Nw.e_args0, ↓Nw.e_argsD, ↓Nw.e_argsC, Nw.rdS, Nw.pkS, Nw.root, Nw.vw, Nw.dts, Nw.cellOf, Nw.fz_d, Nw.fz_l', Nw.fzs_n, Nw.fzs_c, Nw.fzs_d, Nw.e_setT, Nw.e_add, Nw.e_sub, Nw.e_mul, Nw.e_div, Nw.e_mod, Nw.e_pow, Nw.e_and, Nw.e_app, Nw.e_adda, Nw.e_suba, Nw.e_mula, Nw.e_diva, Nw.e_lt, Nw.e_le, Nw.e_gt, Nw.e_ge, Nw.e_eq, Nw.e_ne, Nw.e_eqb, Nw.e_neb, Nw.e_neg, Nw.e_trb, Nw.e_bool, Nw.e_int, Nw.e_ixt, Nw.e_ixl, Nw.at_z, Nw.at_o, Nw.at_t, Nw.subM, Nw.pkM, Nw.plS, Nw.pl0, Nw.kI, Nw.kN, Nw.kS, Nw.getAt, Nw.getP, Nw.outS, List.length_cons, List.length_nil, List.cons_append, List.nil_append, List.append_nil, List.replicate_succ, List.replicate_zero, List.getElem?_cons_zero, List.getElem?_cons_succ, List.set_cons_succ, List.set_cons_zero, Nat.reduceSub, Nat.reduceAdd, Option.bind_some, Option.map_some, if_true, if_false, decide_true, decide_false, Bool.false_eq_true, Bool.not_true, Bool.not_false, if_pos, List.map_cons, List.map_nil, lenD, q]
  have m1 : (0 : Int) < 2305843009213693951 := by decide
  have p1 : CPow 10 18 := ⟨by decide, by decide, by decide⟩
  have p2 : ∀ x, CMul 39373 x ∨ CMulW 39373 x := fun x => .inl (.inl ⟨by decide, by decide⟩)
  have r1 := Int.emod_nonneg c (Int.ne_of_gt m1)
  have r2 := Int.emod_lt_of_pos c m1
  have b1 : ∀ i : Int, bltD "abs" [.int i] = some (.d (.int (absI i))) := fun _ => rfl
  have b2 : ∀ k : Bool, bltD "int" [.bool k] = some (.d (.int (if k then 1 else 0))) := fun _ => rfl
  generalize hz : (if decide (10 ^ (18 : Int).toNat ≤ absI c) = true then (1 : Int) else 0) = z
  have hz' : 0 ≤ z ∧ z ≤ 1 := by rw [← hz]; split <;> decide
  have p3 : CMul (absI c) z ∨ CMulW (absI c) z := .inl (.inr (by omega))
  have ha : 0 ≤ absI c := by unfold absI; split <;> omega
  refine ⟨⟨absI c * z, c % 2305843009213693951 + 39373 * (k : Nat) + 17, 0⟩, ⟨Int.mul_nonneg ha hz'.1, ?_, ?_, Int.le_refl _, Int.le_refl _⟩, ?_⟩
  · show (0 : Int) ≤ c % 2305843009213693951 + 39373 * (k : Nat) + 17
    omega
  · show c % 2305843009213693951 + 39373 * (k : Nat) + 17 < (2 : Int) ^ 62
    omega
  · refine run_mkF (s' := ⟨[.v (.d (.list (cs.map .int))), .v (.d (.int (k : Nat))), .v (.d (.int c))], []⟩) ?_ rfl rfl
    rw [bnd_ap] at ec
    simp only [p_dip, Nw.startS, Nw.startG, ↓Nw.e_sq, ↓Nw.e_sq0, ↓Nw.bnd_ap, ↓Nw.e_ret, ↓Nw.e_some, ↓Nw.e_dat, ↓Nw.e_evD0, ↓Nw.e_evD, ↓Nw.e_evT0, ↓Nw.e_evT, ↓Nw.e_tupM, ↓Nw.e_lstM, ↓Nw.e_lstD, ↓Nw.e_args0, ↓Nw.e_argsD, ↓Nw.e_argsC, Nw.rdS, Nw.pkS, Nw.root, Nw.vw, Nw.dts, Nw.cellOf, Nw.fz_d, Nw.fz_l', Nw.fzs_n, Nw.fzs_c, Nw.fzs_d, Nw.e_setT, Nw.e_add, Nw.e_sub, Nw.e_mul, Nw.e_div, Nw.e_mod, Nw.e_pow, Nw.e_and, Nw.e_app, Nw.e_adda, Nw.e_suba, Nw.e_mula, Nw.e_diva, Nw.e_lt, Nw.e_le, Nw.e_gt, Nw.e_ge, Nw.e_eq, Nw.e_ne, Nw.e_eqb, Nw.e_neb, Nw.e_neg, Nw.e_trb, Nw.e_bool, Nw.e_int, Nw.e_ixt, Nw.e_ixl, Nw.at_z, Nw.at_o, Nw.at_t, Nw.subM, Nw.pkM, Nw.plS, Nw.pl0, Nw.kI, Nw.kN, Nw.kS, Nw.getAt, Nw.getP, Nw.outS, List.length_cons, List.length_nil, List.cons_append, List.nil_append, List.append_nil, List.replicate_succ, List.replicate_zero, List.getElem?_cons_zero, List.getElem?_cons_succ, List.set_cons_succ, List.set_cons_zero, Nat.reduceSub, Nat.reduceAdd, Option.bind_some, Option.map_some, if_true, if_false, decide_true, decide_false, Bool.false_eq_true, Bool.not_true, Bool.not_false, if_pos, List.map_cons, List.map_nil] at ec ⊢
    simp only [ec, Nw.startS, Nw.startG, ↓Nw.e_sq, ↓Nw.e_sq0, ↓Nw.bnd_ap, ↓Nw.e_ret, ↓Nw.e_some, ↓Nw.e_dat, ↓Nw.e_evD0, ↓Nw.e_evD, ↓Nw.e_evT0, ↓Nw.e_evT, ↓Nw.e_tupM, ↓Nw.e_lstM, ↓Nw.e_lstD, ↓Nw.e_args0, ↓Nw.e_argsD, ↓Nw.e_argsC, Nw.rdS, Nw.pkS, Nw.root, Nw.vw, Nw.dts, Nw.cellOf, Nw.fz_d, Nw.fz_l', Nw.fzs_n, Nw.fzs_c, Nw.fzs_d, Nw.e_setT, Nw.e_add, Nw.e_sub, Nw.e_mul, Nw.e_div, Nw.e_mod, Nw.e_pow, Nw.e_and, Nw.e_app, Nw.e_adda, Nw.e_suba, Nw.e_mula, Nw.e_diva, Nw.e_lt, Nw.e_le, Nw.e_gt, Nw.e_ge, Nw.e_eq, Nw.e_ne, Nw.e_eqb, Nw.e_neb, Nw.e_neg, Nw.e_trb, Nw.e_bool, Nw.e_int, Nw.e_ixt, Nw.e_ixl, Nw.at_z, Nw.at_o, Nw.at_t, Nw.subM, Nw.pkM, Nw.plS, Nw.pl0, Nw.kI, Nw.kN, Nw.kS, Nw.getAt, Nw.getP, Nw.outS, List.length_cons, List.length_nil, List.cons_append, List.nil_append, List.append_nil, List.replicate_succ, List.replicate_zero, List.getElem?_cons_zero, List.getElem?_cons_succ, List.set_cons_succ, List.set_cons_zero, Nat.reduceSub, Nat.reduceAdd, Option.bind_some, Option.map_some, if_true, if_false, decide_true, decide_false, Bool.false_eq_true, Bool.not_true, Bool.not_false, if_pos, List.map_cons, List.map_nil, b1, b2, hz, m1, p1, p2, p3, size3, bx]
/-! ### folded -/
theorem sliceD_int (xs : List Int) (l h : Option Int) : ∃ ys : List Int, sliceD (.list (xs.map .int)) l h = some (.l ((ys.map PyData.int).map T.d)) ∧ ys.length = (cutD (xs.map .int) l h).length := by
  refine ⟨(xs.drop (HT.sIx (xs.map PyData.int).length 0 l)).take (HT.sIx (xs.map PyData.int).length (xs.map PyData.int).length h - HT.sIx (xs.map PyData.int).length 0 l), ?_, ?_⟩
  · show some (T.l ((cutD (xs.map .int) l h).map T.d)) = _
    unfold cutD
    simp only [List.map_take, List.map_drop]
  · unfold cutD
    simp only [List.length_take, List.length_drop, List.length_map]
theorem enum_get {ys : List Int} {i : Nat} (h : i < ((List.range (ys.map PyData.int).length).zipWith (fun i x => PyData.tuple [.int (i : Nat), x]) (ys.map PyData.int)).length) : ∃ v, ((List.range (ys.map PyData.int).length).zipWith (fun i x => PyData.tuple [.int (i : Nat), x]) (ys.map PyData.int))[i] = .tuple [.int (i : Nat), .int v] := by
  rw [List.getElem_zipWith, List.getElem_range, List.getElem_map]
  exact ⟨_, rfl⟩
theorem ixN_nat {n j : Nat} (h : j < n) : ixN n (j : Int) = some j := by
  unfold ixN
  rw [if_pos (by omega), if_pos (by omega)]
  rfl
theorem put_own2 (a b d0 d1 : Sl) (xs : List T) {j : Nat} (h : j < xs.length) (d : D) : chP (2, []) (putD (.int (j : Nat)) d) ⟨[a, b, .v (.l xs), d0, d1], []⟩ = .ok .none ⟨[a, b, .v (.l (xs.set j (.d d))), d0, d1], []⟩ := by
  unfold chP putD
  simp only [mayPut, getAt, root, List.getElem?_cons_succ, List.getElem?_cons_zero, Option.bind_some, getP, if_true, e_int, ixN_nat h, Option.map_some, putAt, rootPut, putP, List.set_cons_succ, List.set_cons_zero]
theorem sIxN (n d : Nat) {M : Nat} : HT.sIx n d (some (M : Int)) = min M n := by
  unfold HT.sIx
  simp only
  rw [if_neg (by omega)]
  rfl
theorem sIx63 (n d : Nat) : HT.sIx n d (some 63) = min 63 n := sIxN n d (M := 63)
theorem sIx0 (n d : Nat) : HT.sIx n d none = d := rfl
theorem tint (cs : List Int) : (cs.map PyData.int).map T.d = cs.map fun i => T.d (.int i) := by rw [List.map_map]; rfl
theorem ev_folded (xs : List Int) {M : Nat} (hM : 0 < M) (hM' : M < 63) : ∃ cs : List Int, cs.length ≤ M ∧ fFolded.run [.list (xs.map .int), .int (M : Nat)] [] = some (.val (.l (cs.map fun i => T.d (.int i))) []) := by
  obtain ⟨c0, e0, l0⟩ := sliceD_int xs none (some (M : Int))
  obtain ⟨ys, e1, l1⟩ := sliceD_int xs (some (M : Int)) (some 63)
  have hc : c0.length = min M xs.length := by
    rw [l0]
    unfold cutD
    simp only [List.length_take, List.length_drop, List.length_map, sIxN, sIx0]
    omega
  have hy : 0 < ys.length → c0.length = M := by
    intro h
    rw [l1] at h
    unfold cutD at h
    simp only [List.length_take, List.length_drop, List.length_map, sIxN, sIx63, sIx0] at h
    omega
  obtain ⟨s', e, cs, d0, d1, hl, hs⟩ := for_inv (asg := fun x => asgTup [fun y => setT 3 (.d y), fun y => setT 4 (.d y)] x) (body := p_fbody) (fun _ s => ∃ (cs : List Int) (d0 d1 : Sl), cs.length = c0.length ∧ s = ⟨[.v (.d (.list (xs.map .int))), .v (.d (.int (M : Nat))), .v (.l ((cs.map PyData.int).map T.d)), d0, d1], []⟩)
    ((List.range (ys.map PyData.int).length).zipWith (fun i x => PyData.tuple [.int (i : Nat), x]) (ys.map PyData.int)) 0 ⟨[.v (.d (.list (xs.map .int))), .v (.d (.int (M : Nat))), .v (.l ((c0.map PyData.int).map T.d)), .un, .un], []⟩ ⟨c0, _, _, rfl, rfl⟩ (by
      intro i hi s ⟨cs, d0, d1, hl, hs⟩
      subst hs
      obtain ⟨v, ev⟩ := enum_get hi
      rw [ev]
      have hi' : 0 < ys.length := by
        simp only [List.length_zipWith, List.length_range, List.length_map] at hi
        omega
      have h4 : cs.length = M := by rw [hl]; exact hy hi'
      obtain ⟨j, ej, hj⟩ := as_nat (Int.emod_nonneg (i : Int) (show (M : Int) ≠ 0 by omega)) (Int.emod_lt_of_pos (i : Int) (show (0 : Int) < (M : Int) by omega))
      have hj' : j < (cs.map PyData.int).length := by rw [List.length_map]; omega
      have hj2 : j < ((cs.map PyData.int).map T.d).length := by rw [List.length_map]; exact hj'
      have m4 : (0 : Int) < (M : Int) := by omega
      have hi6 : i < 64 := by
        have := hi
        simp only [List.length_zipWith, List.length_range, List.length_map] at this
        rw [l1] at this
        unfold cutD at this
        simp only [List.length_take, List.length_drop, List.length_map, sIxN, sIx63, sIx0] at this
        omega
      have q : CMul v ((i : Int) + 2) ∨ CMulW v ((i : Int) + 2) := .inl (.inr (by omega))
      refine ⟨⟨[.v (.d (.list (xs.map .int))), .v (.d (.int (M : Nat))), .v (.l (((cs.set j (cs[j]'(by omega) + v * ((i : Int) + 2))).map PyData.int).map T.d)), .v (.d (.int (i : Nat))), .v (.d (.int v))], []⟩, ?_, _, _, _, ?_, rfl⟩
      · have es : ((cs.set j (cs[j]'(by omega) + v * ((i : Int) + 2))).map PyData.int).map T.d = ((cs.map PyData.int).map T.d).set j (.d (.int (cs[j]'(by omega) + v * ((i : Int) + 2)))) := by
          rw [List.map_set, List.map_set]
        rw [es]
        simp only [p_fbody, asgTup, asgL, Nw.startS, Nw.startG, ↓Nw.e_sq, ↓Nw.e_sq0, ↓Nw.bnd_ap, ↓Nw.e_ret, ↓Nw.e_some, ↓Nw.e_dat, ↓Nw.e_evD0, ↓Nw.e_evD, ↓Nw.e_evT0, ↓Nw.e_evT, ↓Nw.e_tupM, ↓Nw.e_lstM, ↓Nw.e_lstD, ↓Nw.e_args0, ↓Nw.e_argsD, ↓Nw.e_argsC, Nw.rdS, Nw.pkS, Nw.root, Nw.vw, Nw.dts, Nw.cellOf, Nw.fz_d, Nw.fz_l', Nw.fzs_n, Nw.fzs_c, Nw.fzs_d, Nw.e_setT, Nw.e_add, Nw.e_sub, Nw.e_mul, Nw.e_div, Nw.e_mod, Nw.e_pow, Nw.e_and, Nw.e_app, Nw.e_adda, Nw.e_suba, Nw.e_mula, Nw.e_diva, Nw.e_lt, Nw.e_le, Nw.e_gt, Nw.e_ge, Nw.e_eq, Nw.e_ne, Nw.e_eqb, Nw.e_neb, Nw.e_neg, Nw.e_trb, Nw.e_bool, Nw.e_int, Nw.e_ixt, Nw.e_ixl, Nw.at_z, Nw.at_o, Nw.at_t, Nw.subM, Nw.pkM, Nw.plS, Nw.pl0, Nw.kI, Nw.kN, Nw.kS, Nw.getAt, Nw.getP, Nw.outS, List.length_cons, List.length_nil, List.cons_append, List.nil_append, List.append_nil, List.replicate_succ, List.replicate_zero, List.getElem?_cons_zero, List.getElem?_cons_succ, List.set_cons_succ, List.set_cons_zero, Nat.reduceSub, Nat.reduceAdd, Option.bind_some, Option.map_some, if_true, if_false, decide_true, decide_false, Bool.false_eq_true, Bool.not_true, Bool.not_false, if_pos, List.map_cons, List.map_nil, dts_d, m4, ej, at_nat _ j hj', List.getElem_map, q, put_own2 _ _ _ _ _ hj2]
      · rw [List.length_set]; exact hl)
  subst hs
  refine ⟨cs, by rw [hl, hc]; omega, ?_⟩
  rw [← tint]
  have hnp : noP (.l ((cs.map PyData.int).map T.d)) = true := by
    show noPs _ = true
    generalize cs.map PyData.int = zs
    induction zs with
    | nil => rfl
    | cons z r ih => exact ih
  refine run_mkF (s' := ⟨[.v (.d (.list (xs.map .int))), .v (.d (.int (M : Nat))), .un, d0, d1], []⟩) ?_ rfl (by rw [hnp]; rfl)
  simp only [p_folded, Nw.startS, Nw.startG, ↓Nw.e_sq, ↓Nw.e_sq0, ↓Nw.bnd_ap, ↓Nw.e_ret, ↓Nw.e_some, ↓Nw.e_dat, ↓Nw.e_evD0, ↓Nw.e_evD, ↓Nw.e_evT0, ↓Nw.e_evT, ↓Nw.e_tupM, ↓Nw.e_lstM, ↓Nw.e_lstD, ↓Nw.e_args0, ↓Nw.e_argsD, ↓Nw.e_argsC, Nw.rdS, Nw.pkS, Nw.root, Nw.vw, Nw.dts, Nw.cellOf, Nw.fz_d, Nw.fz_l', Nw.fzs_n, Nw.fzs_c, Nw.fzs_d, Nw.e_setT, Nw.e_add, Nw.e_sub, Nw.e_mul, Nw.e_div, Nw.e_mod, Nw.e_pow, Nw.e_and, Nw.e_app, Nw.e_adda, Nw.e_suba, Nw.e_mula, Nw.e_diva, Nw.e_lt, Nw.e_le, Nw.e_gt, Nw.e_ge, Nw.e_eq, Nw.e_ne, Nw.e_eqb, Nw.e_neb, Nw.e_neg, Nw.e_trb, Nw.e_bool, Nw.e_int, Nw.e_ixt, Nw.e_ixl, Nw.at_z, Nw.at_o, Nw.at_t, Nw.subM, Nw.pkM, Nw.plS, Nw.pl0, Nw.kI, Nw.kN, Nw.kS, Nw.getAt, Nw.getP, Nw.outS, List.length_cons, List.length_nil, List.cons_append, List.nil_append, List.append_nil, List.replicate_succ, List.replicate_zero, List.getElem?_cons_zero, List.getElem?_cons_succ, List.set_cons_succ, List.set_cons_zero, Nat.reduceSub, Nat.reduceAdd, Option.bind_some, Option.map_some, if_true, if_false, decide_true, decide_false, Bool.false_eq_true, Bool.not_true, Bool.not_false, if_pos, List.map_cons, List.map_nil, e0, e1, seqD, enumD, e]
end Nw
end

set_option Elab.async false
set_option linter.all false
set_option maxRecDepth 100000
set_option maxHeartbeats 4000000
noncomputable section
namespace Nw
open PySem L2 PySem.Spec

/-! ### the same, kind by kind -/
def q_it1 (ex : Exs) (rec : Fn) : S → Res (List D) := bnd (dat (bnd (rdS 1) fun d => ret (.d d))) fun d => lift (seqD d)
def q_ce2 (ex : Exs) (rec : Fn) : S → Res D := dat (bnd (argsM [.d (dat (subM (plS (pl0 0) (kN 2)) (bnd (pkS 0) fun _ => bnd (dat (bnd (rdS 2) fun d => ret (.d d))) fun k => bnd (pkS 0) fun c => lift ((ixD c k).map T.d)))), .d (dat (subM (plS (pl0 1) (kN 2)) (bnd (pkS 1) fun _ => bnd (dat (bnd (rdS 2) fun d => ret (.d d))) fun k => bnd (pkS 1) fun c => lift ((ixD c k).map T.d))))]) (callFn rec))
def q_it3 (ex : Exs) (rec : Fn) : S → Res (List D) := bnd (dat (bnd (rdS 0) fun d => ret (.d d))) fun d => bnd (dat (bnd (rdS 1) fun d => ret (.d d))) fun d' => lift (zipD d d')
def q_ce4 (ex : Exs) (rec : Fn) : S → Res D := dat (bnd (argsM [.d (dat (bnd (rdS 3) fun d => ret (.d d))), .d (dat (bnd (rdS 4) fun d => ret (.d d)))]) (callFn rec))
def p_same (ex : Exs) (rec : Fn) : S → Res Fl := sq [
    bnd (bnd (dat (isiM (fun c => ex.isi c "dict") (fun t => some (isiD t "dict")) (pkS 1))) fun d => lift (truthD d)) fun k => if k then (sq [
    bnd (bnd (bnd (bnd (dat (isiM (fun c => ex.isi c "dict") (fun t => some (isiD t "dict")) (pkS 0))) fun d => lift (truthD d)) fun c => ret (!c)) fun c => if c then ret true else (bnd (dat (bnd (evD [dat (bnd (rdS 0) fun d => ret (.d d))]) fun ds => lift (bltD "sorted" ds))) fun x => bnd (dat (bnd (evD [dat (bnd (rdS 1) fun d => ret (.d d))]) fun ds => lift (bltD "sorted" ds))) fun y => lift (cmpD .NotEq x y))) fun k => if k then (sq [
    bnd (ret (.d (.bool false))) fun t => ret (.rt t)]) else (sq []), 
    bnd (bnd (evD [dat (cpr [2] (q_it1 ex rec) (fun x => setT 2 (.d (x))) (ret true) (q_ce2 ex rec))]) fun ds => lift (bltD "all" ds)) fun t => ret (.rt t)]) else (sq []), 
    bnd (bnd (dat (isiM (fun _ => none) (fun t => some (isiD t "list" || (isiD t "tuple" || (false)))) (pkS 1))) fun d => lift (truthD d)) fun k => if k then (sq [
    bnd (bnd (bnd (dat (isiM (fun c => ex.isi c "list") (fun t => some (isiD t "list")) (pkS 0))) fun x => bnd (dat (isiM (fun c => ex.isi c "list") (fun t => some (isiD t "list")) (pkS 1))) fun y => lift (cmpD .NotEq x y)) fun c => if c then ret true else (bnd (dat (isiM (fun c => ex.isi c "tuple") (fun t => some (isiD t "tuple")) (pkS 0))) fun x => bnd (dat (isiM (fun c => ex.isi c "tuple") (fun t => some (isiD t "tuple")) (pkS 1))) fun y => lift (cmpD .NotEq x y))) fun k => if k then (sq [
    bnd (ret (.d (.bool false))) fun t => ret (.rt t)]) else (sq []), 
    bnd (bnd (dat (bnd (bnd (dat (bnd (pkS 0) fun c => lift ((lenD c).map T.d))) fun x => bnd (dat (bnd (pkS 1) fun c => lift ((lenD c).map T.d))) fun y => lift (cmpD .Eq x y)) fun k => ret (.d (.bool k)))) fun x => bnd (lift (boolD x)) fun c => if c then (bnd (evD [dat (cpr [3, 4] (q_it3 ex rec) (fun x => asgTup [fun y => setT 3 (.d (y)), fun y => setT 4 (.d (y))] (x)) (ret true) (q_ce4 ex rec))]) fun ds => lift (bltD "all" ds)) else ret (.d (.bool false))) fun t => ret (.rt t)]) else (sq []), 
    bnd (bnd (bnd (pkS 1) fun _ => bnd (dat (ret (.d .none))) fun y => bnd (pkS 1) fun x => lift (cmpD .Is x y)) fun c => if c then ret true else (bnd (pkS 0) fun _ => bnd (dat (ret (.d .none))) fun y => bnd (pkS 0) fun x => lift (cmpD .Is x y))) fun k => if k then (sq [
    bnd (bnd (dat (bnd (bnd (pkS 1) fun _ => bnd (dat (ret (.d .none))) fun y => bnd (pkS 1) fun x => lift (cmpD .Is x y)) fun k => ret (.d (.bool k)))) fun x => bnd (lift (boolD x)) fun c => if c then (bnd (bnd (pkS 0) fun _ => bnd (dat (ret (.d .none))) fun y => bnd (pkS 0) fun x => lift (cmpD .Is x y)) fun k => ret (.d (.bool k))) else ret (.d (.bool false))) fun t => ret (.rt t)]) else (sq []), 
    bnd (bnd (bnd (dat (isiM (fun c => ex.isi c "bool") (fun t => some (isiD t "bool")) (pkS 1))) fun d => lift (truthD d)) fun c => if c then ret true else (bnd (dat (isiM (fun c => ex.isi c "str") (fun t => some (isiD t "str")) (pkS 1))) fun d => lift (truthD d))) fun k => if k then (sq [
    bnd (bnd (dat (bnd (bnd (dat (isiM (fun c => ex.isi c "bool") (fun t => some (isiD t "bool")) (pkS 0))) fun x => bnd (dat (isiM (fun c => ex.isi c "bool") (fun t => some (isiD t "bool")) (pkS 1))) fun y => lift (cmpD .Eq x y)) fun k => ret (.d (.bool k)))) fun x => bnd (lift (boolD x)) fun c => if c then (bnd (bnd (pkS 0) fun _ => bnd (pkS 1) fun y => bnd (pkS 0) fun x => lift (cmpD .Eq x y)) fun k => ret (.d (.bool k))) else ret (.d (.bool false))) fun t => ret (.rt t)]) else (sq []), 
    bnd (bnd (dat (isiM (fun c => ex.isi c "int") (fun t => some (isiD t "int")) (pkS 0))) fun x => bnd (lift (boolD x)) fun c => if c then (bnd (dat (bnd (dat (isiM (fun c => ex.isi c "bool") (fun t => some (isiD t "bool")) (pkS 0))) fun x => lift ((boolD x).map fun c => T.d (.bool (!c))))) fun x => bnd (lift (boolD x)) fun c => if c then (bnd (bnd (pkS 0) fun _ => bnd (pkS 1) fun y => bnd (pkS 0) fun x => lift (cmpD .Eq x y)) fun k => ret (.d (.bool k))) else ret (.d (.bool false))) else ret (.d (.bool false))) fun t => ret (.rt t)]
def fSame (ex : Exs) : Nat → Fn
  | 0 => ⟨[false, false], fun _ _ => none⟩
  | n + 1 => mkF 5 [false, false] (p_same ex (fSame ex n))
/-- plain data of a depth -/
inductive Pn : Nat → D → Prop where
  | non {n : Nat} : Pn (n + 1) .none
  | int {n : Nat} (i : Int) : Pn (n + 1) (.int i)
  | bool {n : Nat} (b : Bool) : Pn (n + 1) (.bool b)
  | str {n : Nat} (x : Str) : Pn (n + 1) (.str x)
  | list {n : Nat} (xs : List D) : (∀ x ∈ xs, Pn n x) → xs.length ≤ sizeLine → Pn (n + 1) (.list xs)
  | tuple {n : Nat} (xs : List D) : (∀ x ∈ xs, Pn n x) → xs.length ≤ sizeLine → Pn (n + 1) (.tuple xs)
theorem Pn.up : ∀ {n : Nat} {d : D}, Pn n d → Pn (n + 1) d
  | _, _, .non => .non
  | _, _, .int i => .int i
  | _, _, .bool b => .bool b
  | _, _, .str x => .str x
  | _, _, .list xs h l => .list xs (fun x hx => (h x hx).up) l
  | _, _, .tuple xs h l => .tuple xs (fun x hx => (h x hx).up) l
theorem zip_self (xs : List D) : List.zipWith (fun x y => PyData.tuple [x, y]) xs xs = xs.map fun x => .tuple [x, x] := by
  induction xs with
  | nil => rfl
  | cons x r ih => rw [List.zipWith_cons_cons, ih, List.map_cons]
theorem same_all {ex : Exs} {n : Nat} (ih : ∀ d, Pn n d → (fSame ex n).run [d, d] [] = some (.val (.d (.bool true)) [])) (d : D) (xs : List D) (h : ∀ x ∈ xs, Pn n x) (hl : xs.length ≤ sizeLine) (hz : zipD d d = some (xs.map fun x => .tuple [x, x])) :
    ∃ out : List D, cpr [3, 4] (q_it3 ex (fSame ex n)) (fun x => asgTup [fun y => setT 3 (.d y), fun y => setT 4 (.d y)] x) (ret true) (q_ce4 ex (fSame ex n)) ⟨[.v (.d d), .v (.d d), .un, .un, .un], []⟩ = .ok (.l (out.map T.d)) ⟨[.v (.d d), .v (.d d), .un, .un, .un], []⟩ ∧ allD (.list out) = some (.d (.bool true)) := by
  obtain ⟨out, s', e, hs, ha⟩ := all_comp (own := [3, 4]) (it := q_it3 ex (fSame ex n)) (asg := fun x => asgTup [fun y => setT 3 (.d y), fun y => setT 4 (.d y)] x) (elt := q_ce4 ex (fSame ex n)) (fun _ s => s = ⟨[.v (.d d), .v (.d d), .un, .un, .un], []⟩)
    (ds := xs.map fun x => .tuple [x, x]) (s0 := ⟨[.v (.d d), .v (.d d), .un, .un, .un], []⟩) (s := ⟨[.v (.d d), .v (.d d), .un, .un, .un], []⟩) (by simp only [q_it3, Nw.startS, Nw.startG, ↓Nw.e_sq, ↓Nw.e_sq0, ↓Nw.bnd_ap, ↓Nw.e_ret, ↓Nw.e_some, ↓Nw.e_dat, ↓Nw.e_evD0, ↓Nw.e_evD, ↓Nw.e_evT0, ↓Nw.e_evT, ↓Nw.e_tupM, ↓Nw.e_lstM, ↓Nw.e_lstD, ↓Nw.e_args0, ↓Nw.e_argsD, ↓Nw.e_argsC, Nw.rdS, Nw.pkS, Nw.root, Nw.vw, Nw.dts, Nw.cellOf, Nw.fz_d, Nw.fz_l', Nw.fzs_n, Nw.fzs_c, Nw.fzs_d, Nw.e_setT, Nw.e_add, Nw.e_sub, Nw.e_mul, Nw.e_div, Nw.e_mod, Nw.e_pow, Nw.e_and, Nw.e_app, Nw.e_adda, Nw.e_suba, Nw.e_mula, Nw.e_diva, Nw.e_lt, Nw.e_le, Nw.e_gt, Nw.e_ge, Nw.e_eq, Nw.e_ne, Nw.e_eqb, Nw.e_neb, Nw.e_neg, Nw.e_trb, Nw.e_bool, Nw.e_int, Nw.e_ixt, Nw.e_ixl, Nw.at_z, Nw.at_o, Nw.at_t, Nw.subM, Nw.pkM, Nw.plS, Nw.pl0, Nw.kI, Nw.kN, Nw.kS, Nw.getAt, Nw.getP, Nw.outS, List.length_cons, List.length_nil, List.cons_append, List.nil_append, List.append_nil, List.replicate_succ, List.replicate_zero, List.getElem?_cons_zero, List.getElem?_cons_succ, List.set_cons_succ, List.set_cons_zero, Nat.reduceSub, Nat.reduceAdd, Option.bind_some, Option.map_some, if_true, if_false, decide_true, decide_false, Bool.false_eq_true, Bool.not_true, Bool.not_false, if_pos, List.map_cons, List.map_nil, hz]) rfl rfl (by rw [List.length_map]; exact hl) (by
      intro i hi s hs
      subst hs
      rw [List.length_map] at hi
      refine ⟨⟨[.v (.d d), .v (.d d), .un, .v (.d xs[i]), .v (.d xs[i])], []⟩, ?_, rfl⟩
      rw [List.getElem_map]
      simp only [q_ce4, asgTup, asgL, Nw.startS, Nw.startG, ↓Nw.e_sq, ↓Nw.e_sq0, ↓Nw.bnd_ap, ↓Nw.e_ret, ↓Nw.e_some, ↓Nw.e_dat, ↓Nw.e_evD0, ↓Nw.e_evD, ↓Nw.e_evT0, ↓Nw.e_evT, ↓Nw.e_tupM, ↓Nw.e_lstM, ↓Nw.e_lstD, ↓Nw.e_args0, ↓Nw.e_argsD, ↓Nw.e_argsC, Nw.rdS, Nw.pkS, Nw.root, Nw.vw, Nw.dts, Nw.cellOf, Nw.fz_d, Nw.fz_l', Nw.fzs_n, Nw.fzs_c, Nw.fzs_d, Nw.e_setT, Nw.e_add, Nw.e_sub, Nw.e_mul, Nw.e_div, Nw.e_mod, Nw.e_pow, Nw.e_and, Nw.e_app, Nw.e_adda, Nw.e_suba, Nw.e_mula, Nw.e_diva, Nw.e_lt, Nw.e_le, Nw.e_gt, Nw.e_ge, Nw.e_eq, Nw.e_ne, Nw.e_eqb, Nw.e_neb, Nw.e_neg, Nw.e_trb, Nw.e_bool, Nw.e_int, Nw.e_ixt, Nw.e_ixl, Nw.at_z, Nw.at_o, Nw.at_t, Nw.subM, Nw.pkM, Nw.plS, Nw.pl0, Nw.kI, Nw.kN, Nw.kS, Nw.getAt, Nw.getP, Nw.outS, List.length_cons, List.length_nil, List.cons_append, List.nil_append, List.append_nil, List.replicate_succ, List.replicate_zero, List.getElem?_cons_zero, List.getElem?_cons_succ, List.set_cons_succ, List.set_cons_zero, Nat.reduceSub, Nat.reduceAdd, Option.bind_some, Option.map_some, if_true, if_false, decide_true, decide_false, Bool.false_eq_true, Bool.not_true, Bool.not_false, if_pos, List.map_cons, List.map_nil, call_nil (ih _ (h _ (List.getElem_mem hi)))])
  subst hs
  exact ⟨out, e, ha⟩
theorem b_all (ds : List D) : bltD "all" [.list ds] = allD (.list ds) := rfl
theorem ev_same {ex : Exs} : ∀ (n : Nat) (d : D), Pn n d → (fSame ex n).run [d, d] [] = some (.val (.d (.bool true)) [])
  | 0, d, h => by cases h
  | n + 1, d, h => by
    refine run_mkF (s' := ⟨[.v (.d d), .v (.d d), .un, .un, .un], []⟩) ?_ rfl rfl
    cases h with
    | non => simp only [p_same, isiM, excOf, tyD, isiD, Nw.startS, Nw.startG, ↓Nw.e_sq, ↓Nw.e_sq0, ↓Nw.bnd_ap, ↓Nw.e_ret, ↓Nw.e_some, ↓Nw.e_dat, ↓Nw.e_evD0, ↓Nw.e_evD, ↓Nw.e_evT0, ↓Nw.e_evT, ↓Nw.e_tupM, ↓Nw.e_lstM, ↓Nw.e_lstD, ↓Nw.e_args0, ↓Nw.e_argsD, ↓Nw.e_argsC, Nw.rdS, Nw.pkS, Nw.root, Nw.vw, Nw.dts, Nw.cellOf, Nw.fz_d, Nw.fz_l', Nw.fzs_n, Nw.fzs_c, Nw.fzs_d, Nw.e_setT, Nw.e_add, Nw.e_sub, Nw.e_mul, Nw.e_div, Nw.e_mod, Nw.e_pow, Nw.e_and, Nw.e_app, Nw.e_adda, Nw.e_suba, Nw.e_mula, Nw.e_diva, Nw.e_lt, Nw.e_le, Nw.e_gt, Nw.e_ge, Nw.e_eq, Nw.e_ne, Nw.e_eqb, Nw.e_neb, Nw.e_neg, Nw.e_trb, Nw.e_bool, Nw.e_int, Nw.e_ixt, Nw.e_ixl, Nw.at_z, Nw.at_o, Nw.at_t, Nw.subM, Nw.pkM, Nw.plS, Nw.pl0, Nw.kI, Nw.kN, Nw.kS, Nw.getAt, Nw.getP, Nw.outS, List.length_cons, List.length_nil, List.cons_append, List.nil_append, List.append_nil, List.replicate_succ, List.replicate_zero, List.getElem?_cons_zero, List.getElem?_cons_succ, List.set_cons_succ, List.set_cons_zero, Nat.reduceSub, Nat.reduceAdd, Option.bind_some, Option.map_some, if_true, if_false, decide_true, decide_false, Bool.false_eq_true, Bool.not_true, Bool.not_false, if_pos, List.map_cons, List.map_nil, String.reduceBEq, Bool.or_false, Bool.false_or, Bool.and_false, Bool.false_and, Bool.true_and, Bool.and_true, Bool.true_or, cmpD]
    | int i =>
      simp only [p_same, isiM, excOf, tyD, isiD, Nw.startS, Nw.startG, ↓Nw.e_sq, ↓Nw.e_sq0, ↓Nw.bnd_ap, ↓Nw.e_ret, ↓Nw.e_some, ↓Nw.e_dat, ↓Nw.e_evD0, ↓Nw.e_evD, ↓Nw.e_evT0, ↓Nw.e_evT, ↓Nw.e_tupM, ↓Nw.e_lstM, ↓Nw.e_lstD, ↓Nw.e_args0, ↓Nw.e_argsD, ↓Nw.e_argsC, Nw.rdS, Nw.pkS, Nw.root, Nw.vw, Nw.dts, Nw.cellOf, Nw.fz_d, Nw.fz_l', Nw.fzs_n, Nw.fzs_c, Nw.fzs_d, Nw.e_setT, Nw.e_add, Nw.e_sub, Nw.e_mul, Nw.e_div, Nw.e_mod, Nw.e_pow, Nw.e_and, Nw.e_app, Nw.e_adda, Nw.e_suba, Nw.e_mula, Nw.e_diva, Nw.e_lt, Nw.e_le, Nw.e_gt, Nw.e_ge, Nw.e_eq, Nw.e_ne, Nw.e_eqb, Nw.e_neb, Nw.e_neg, Nw.e_trb, Nw.e_bool, Nw.e_int, Nw.e_ixt, Nw.e_ixl, Nw.at_z, Nw.at_o, Nw.at_t, Nw.subM, Nw.pkM, Nw.plS, Nw.pl0, Nw.kI, Nw.kN, Nw.kS, Nw.getAt, Nw.getP, Nw.outS, List.length_cons, List.length_nil, List.cons_append, List.nil_append, List.append_nil, List.replicate_succ, List.replicate_zero, List.getElem?_cons_zero, List.getElem?_cons_succ, List.set_cons_succ, List.set_cons_zero, Nat.reduceSub, Nat.reduceAdd, Option.bind_some, Option.map_some, if_true, if_false, decide_true, decide_false, Bool.false_eq_true, Bool.not_true, Bool.not_false, if_pos, List.map_cons, List.map_nil, String.reduceBEq, Bool.or_false, Bool.false_or, Bool.and_false, Bool.false_and, Bool.true_and, Bool.and_true, Bool.true_or, cmpD]
      rw [eqB_eq, decide_eq_true (rfl : i = i)]
    | bool b => simp only [p_same, isiM, excOf, tyD, isiD, Nw.startS, Nw.startG, ↓Nw.e_sq, ↓Nw.e_sq0, ↓Nw.bnd_ap, ↓Nw.e_ret, ↓Nw.e_some, ↓Nw.e_dat, ↓Nw.e_evD0, ↓Nw.e_evD, ↓Nw.e_evT0, ↓Nw.e_evT, ↓Nw.e_tupM, ↓Nw.e_lstM, ↓Nw.e_lstD, ↓Nw.e_args0, ↓Nw.e_argsD, ↓Nw.e_argsC, Nw.rdS, Nw.pkS, Nw.root, Nw.vw, Nw.dts, Nw.cellOf, Nw.fz_d, Nw.fz_l', Nw.fzs_n, Nw.fzs_c, Nw.fzs_d, Nw.e_setT, Nw.e_add, Nw.e_sub, Nw.e_mul, Nw.e_div, Nw.e_mod, Nw.e_pow, Nw.e_and, Nw.e_app, Nw.e_adda, Nw.e_suba, Nw.e_mula, Nw.e_diva, Nw.e_lt, Nw.e_le, Nw.e_gt, Nw.e_ge, Nw.e_eq, Nw.e_ne, Nw.e_eqb, Nw.e_neb, Nw.e_neg, Nw.e_trb, Nw.e_bool, Nw.e_int, Nw.e_ixt, Nw.e_ixl, Nw.at_z, Nw.at_o, Nw.at_t, Nw.subM, Nw.pkM, Nw.plS, Nw.pl0, Nw.kI, Nw.kN, Nw.kS, Nw.getAt, Nw.getP, Nw.outS, List.length_cons, List.length_nil, List.cons_append, List.nil_append, List.append_nil, List.replicate_succ, List.replicate_zero, List.getElem?_cons_zero, List.getElem?_cons_succ, List.set_cons_succ, List.set_cons_zero, Nat.reduceSub, Nat.reduceAdd, Option.bind_some, Option.map_some, if_true, if_false, decide_true, decide_false, Bool.false_eq_true, Bool.not_true, Bool.not_false, if_pos, List.map_cons, List.map_nil, String.reduceBEq, Bool.or_false, Bool.false_or, Bool.and_false, Bool.false_and, Bool.true_and, Bool.and_true, Bool.true_or, cmpD]
    | str x => simp only [p_same, isiM, excOf, tyD, isiD, Nw.startS, Nw.startG, ↓Nw.e_sq, ↓Nw.e_sq0, ↓Nw.bnd_ap, ↓Nw.e_ret, ↓Nw.e_some, ↓Nw.e_dat, ↓Nw.e_evD0, ↓Nw.e_evD, ↓Nw.e_evT0, ↓Nw.e_evT, ↓Nw.e_tupM, ↓Nw.e_lstM, ↓Nw.e_lstD, ↓Nw.e_args0, ↓Nw.e_argsD, ↓Nw.e_argsC, Nw.rdS, Nw.pkS, Nw.root, Nw.vw, Nw.dts, Nw.cellOf, Nw.fz_d, Nw.fz_l', Nw.fzs_n, Nw.fzs_c, Nw.fzs_d, Nw.e_setT, Nw.e_add, Nw.e_sub, Nw.e_mul, Nw.e_div, Nw.e_mod, Nw.e_pow, Nw.e_and, Nw.e_app, Nw.e_adda, Nw.e_suba, Nw.e_mula, Nw.e_diva, Nw.e_lt, Nw.e_le, Nw.e_gt, Nw.e_ge, Nw.e_eq, Nw.e_ne, Nw.e_eqb, Nw.e_neb, Nw.e_neg, Nw.e_trb, Nw.e_bool, Nw.e_int, Nw.e_ixt, Nw.e_ixl, Nw.at_z, Nw.at_o, Nw.at_t, Nw.subM, Nw.pkM, Nw.plS, Nw.pl0, Nw.kI, Nw.kN, Nw.kS, Nw.getAt, Nw.getP, Nw.outS, List.length_cons, List.length_nil, List.cons_append, List.nil_append, List.append_nil, List.replicate_succ, List.replicate_zero, List.getElem?_cons_zero, List.getElem?_cons_succ, List.set_cons_succ, List.set_cons_zero, Nat.reduceSub, Nat.reduceAdd, Option.bind_some, Option.map_some, if_true, if_false, decide_true, decide_false, Bool.false_eq_true, Bool.not_true, Bool.not_false, if_pos, List.map_cons, List.map_nil, String.reduceBEq, Bool.or_false, Bool.false_or, Bool.and_false, Bool.false_and, Bool.true_and, Bool.and_true, Bool.true_or, cmpD]
    | list xs hx hl =>
      obtain ⟨out, e, ha⟩ := same_all (ex := ex) (ev_same n) (.list xs) xs hx hl (by show some (List.zipWith _ xs xs) = _; rw [zip_self])
      simp only [p_same, isiM, excOf, tyD, isiD, Nw.startS, Nw.startG, ↓Nw.e_sq, ↓Nw.e_sq0, ↓Nw.bnd_ap, ↓Nw.e_ret, ↓Nw.e_some, ↓Nw.e_dat, ↓Nw.e_evD0, ↓Nw.e_evD, ↓Nw.e_evT0, ↓Nw.e_evT, ↓Nw.e_tupM, ↓Nw.e_lstM, ↓Nw.e_lstD, ↓Nw.e_args0, ↓Nw.e_argsD, ↓Nw.e_argsC, Nw.rdS, Nw.pkS, Nw.root, Nw.vw, Nw.dts, Nw.cellOf, Nw.fz_d, Nw.fz_l', Nw.fzs_n, Nw.fzs_c, Nw.fzs_d, Nw.e_setT, Nw.e_add, Nw.e_sub, Nw.e_mul, Nw.e_div, Nw.e_mod, Nw.e_pow, Nw.e_and, Nw.e_app, Nw.e_adda, Nw.e_suba, Nw.e_mula, Nw.e_diva, Nw.e_lt, Nw.e_le, Nw.e_gt, Nw.e_ge, Nw.e_eq, Nw.e_ne, Nw.e_eqb, Nw.e_neb, Nw.e_neg, Nw.e_trb, Nw.e_bool, Nw.e_int, Nw.e_ixt, Nw.e_ixl, Nw.at_z, Nw.at_o, Nw.at_t, Nw.subM, Nw.pkM, Nw.plS, Nw.pl0, Nw.kI, Nw.kN, Nw.kS, Nw.getAt, Nw.getP, Nw.outS, List.length_cons, List.length_nil, List.cons_append, List.nil_append, List.append_nil, List.replicate_succ, List.replicate_zero, List.getElem?_cons_zero, List.getElem?_cons_succ, List.set_cons_succ, List.set_cons_zero, Nat.reduceSub, Nat.reduceAdd, Option.bind_some, Option.map_some, if_true, if_false, decide_true, decide_false, Bool.false_eq_true, Bool.not_true, Bool.not_false, if_pos, List.map_cons, List.map_nil, String.reduceBEq, Bool.or_false, Bool.false_or, Bool.and_false, Bool.false_and, Bool.true_and, Bool.and_true, Bool.true_or, lenD, e, b_all, ha]
    | tuple xs hx hl =>
      obtain ⟨out, e, ha⟩ := same_all (ex := ex) (ev_same n) (.tuple xs) xs hx hl (by show some (List.zipWith _ xs xs) = _; rw [zip_self])
      simp only [p_same, isiM, excOf, tyD, isiD, Nw.startS, Nw.startG, ↓Nw.e_sq, ↓Nw.e_sq0, ↓Nw.bnd_ap, ↓Nw.e_ret, ↓Nw.e_some, ↓Nw.e_dat, ↓Nw.e_evD0, ↓Nw.e_evD, ↓Nw.e_evT0, ↓Nw.e_evT, ↓Nw.e_tupM, ↓Nw.e_lstM, ↓Nw.e_lstD, ↓Nw.e_args0, ↓Nw.e_argsD, ↓Nw.e_argsC, Nw.rdS, Nw.pkS, Nw.root, Nw.vw, Nw.dts, Nw.cellOf, Nw.fz_d, Nw.fz_l', Nw.fzs_n, Nw.fzs_c, Nw.fzs_d, Nw.e_setT, Nw.e_add, Nw.e_sub, Nw.e_mul, Nw.e_div, Nw.e_mod, Nw.e_pow, Nw.e_and, Nw.e_app, Nw.e_adda, Nw.e_suba, Nw.e_mula, Nw.e_diva, Nw.e_lt, Nw.e_le, Nw.e_gt, Nw.e_ge, Nw.e_eq, Nw.e_ne, Nw.e_eqb, Nw.e_neb, Nw.e_neg, Nw.e_trb, Nw.e_bool, Nw.e_int, Nw.e_ixt, Nw.e_ixl, Nw.at_z, Nw.at_o, Nw.at_t, Nw.subM, Nw.pkM, Nw.plS, Nw.pl0, Nw.kI, Nw.kN, Nw.kS, Nw.getAt, Nw.getP, Nw.outS, List.length_cons, List.length_nil, List.cons_append, List.nil_append, List.append_nil, List.replicate_succ, List.replicate_zero, List.getElem?_cons_zero, List.getElem?_cons_succ, List.set_cons_succ, List.set_cons_zero, Nat.reduceSub, Nat.reduceAdd, Option.bind_some, Option.map_some, if_true, if_false, decide_true, decide_false, Bool.false_eq_true, Bool.not_true, Bool.not_false, if_pos, List.map_cons, List.map_nil, String.reduceBEq, Bool.or_false, Bool.false_or, Bool.and_false, Bool.false_and, Bool.true_and, Bool.and_true, Bool.true_or, lenD, e, b_all, ha]
end Nw
end

set_option Elab.async false
set_option linter.all false
set_option maxRecDepth 100000
set_option maxHeartbeats 4000000
noncomputable section
namespace K01
open PySem L2 PySem.Spec Nw
def topS (i : Nat) : Stmt := PySem.Challenge.pw_brookworks_k01_refusals_and_limits.main.body.getD i (.Pass ⟨0,0,0,0⟩)
def ex_rows : List ExRow := [⟨"BadText", 31, some "text", ["ValueError"]⟩, ⟨"BadWord", 51, some "at", ["ValueError"]⟩, ⟨"BadRow", 71, some "row", ["ValueError"]⟩, ⟨"BadName", 91, some "name", ["ValueError"]⟩, ⟨"BadTerm", 111, some "thing", ["ValueError"]⟩, ⟨"BadNumbers", 131, some "thing", ["ValueError"]⟩, ⟨"BadDeed", 151, some "number", ["ValueError"]⟩, ⟨"Clash", 171, some "number", ["ValueError"]⟩, ⟨"Loose", 191, some "place", ["ValueError"]⟩, ⟨"Round", 211, some "ring", ["ValueError"]⟩, ⟨"NoBrook", 231, some "name", ["KeyError", "LookupError"]⟩, ⟨"NoSpring", 251, some "name", ["KeyError", "LookupError"]⟩, ⟨"NoName", 271, some "name", ["KeyError", "LookupError"]⟩, ⟨"NoOut", 291, some "out", ["KeyError", "LookupError"]⟩, ⟨"NotGiven", 311, some "name", ["KeyError", "LookupError"]⟩, ⟨"NoPath", 331, some "path", ["LookupError"]⟩, ⟨"Dry", 351, some "name", ["LookupError"]⟩, ⟨"NotNow", 371, some "at", ["RuntimeError"]⟩, ⟨"Used", 391, some "other", ["RuntimeError"]⟩, ⟨"LastOut", 411, some "name", ["RuntimeError"]⟩, ⟨"IsOut", 431, some "name", ["RuntimeError"]⟩, ⟨"NotOut", 451, some "name", ["RuntimeError"]⟩, ⟨"Unsure", 471, some "node", ["RuntimeError"]⟩, ⟨"TooFar", 491, some "place", ["OverflowError", "ArithmeticError"]⟩, ⟨"TooFew", 511, some "need", ["OverflowError", "ArithmeticError"]⟩, ⟨"Small", 531, some "place", ["OverflowError", "ArithmeticError"]⟩, ⟨"TooMany", 551, some "most", ["OverflowError", "ArithmeticError"]⟩, ⟨"TooBig", 571, none, ["OverflowError", "ArithmeticError"]⟩]
def ex_bt : List Str := ["ValueError", "KeyError", "LookupError", "IndexError", "RuntimeError", "ArithmeticError", "OverflowError", "TypeError"]
def ex_t : Exs := exT ex_rows ex_bt
def gl_KEYWORDS : D := .tuple [.str "fixed", .str "sum", .str "less", .str "by", .str "pick", .str "late", .str "half", .str "twice", .str "most", .str "least", .str "over", .str "spring", .str "brook", .str "out", .str "beat"]
def gl_SIZE : D := .int 8
def gl_MOST_BOXES : D := .int 120
def gl_WIDE : D := .int 24
def gl_FIGURES : D := .int 8
def gl_FINE : D := .int 6
def gl_MOST_WAYS : D := .int 300
/-! l_dip -/
abbrev N_l_dip : List Str := ["_law_script", "_law_k", "_law_cell"]
abbrev P_l_dip : List Str := ["_law_script", "_law_k"]
theorem sc_l_dip : FnScope N_l_dip P_l_dip (defScope (topS 37)) := ⟨rfl, rfl, rfl, by decide +kernel, rfl, by decide +kernel, by decide +kernel⟩
def tb_l_dip : List (Str × Nat × List Str × Fn) := []
def bl_l_dip : List Str := ["len", "abs", "int"]
def gt_l_dip : List (Str × D) := []
def C_l_dip (wf : Nat) : Cf := ⟨N_l_dip, defScope (topS 37), fnsOf (tb_l_dip), glOf gt_l_dip, gdOf [], bltOf bl_l_dip, wf, fun _ => true, ex_t⟩
def cb_l_dip (wf : Nat) : S → Res Fl := sq [
    bnd (bnd (bnd (pkS 1) fun _ => bnd (dat (bnd (pkS 0) fun c => lift ((lenD c).map T.d))) fun y => bnd (pkS 1) fun x => lift (cmpD .Lt x y)) fun k => if k then (subM (plS (pl0 0) (kN 1)) (bnd (pkS 0) fun _ => bnd (dat (bnd (rdS 1) fun d => ret (.d d))) fun k => bnd (pkS 0) fun c => lift ((ixD c k).map T.d))) else (ret (.d (.int 0)))) fun t => bnd (setT 2 t) fun _ => ret .nx, 
    bnd (lstD [dat (bnd (dat (bnd (evD [dat (bnd (rdS 2) fun d => ret (.d d))]) fun ds => lift (bltD "abs" ds))) fun x => bnd (dat (bnd (evD [dat (bnd (bnd (dat (bnd (evD [dat (bnd (rdS 2) fun d => ret (.d d))]) fun ds => lift (bltD "abs" ds))) fun x => bnd (dat (bnd (dat (ret (.d (.int 10)))) fun x => bnd (dat (ret (.d (.int 18)))) fun y => lift (binD .Pow x y))) fun y => lift (cmpD .GtE x y)) fun k => ret (.d (.bool k)))]) fun ds => lift (bltD "int" ds))) fun y => lift (binD .Mult x y)), dat (bnd (dat (bnd (dat (bnd (pkS 2) fun _ => bnd (dat (ret (.d (.int 2305843009213693951)))) fun y => bnd (pkS 2) fun x => lift (binD .Mod x y))) fun x => bnd (dat (bnd (dat (ret (.d (.int 39373)))) fun x => bnd (pkS 1) fun y => lift (binD .Mult x y))) fun y => lift (binD .Add x y))) fun x => bnd (dat (ret (.d (.int 17)))) fun y => lift (binD .Add x y)), dat (ret (.d (.int 0)))]) fun t => ret (.rt t)]
theorem bd_l_dip (wf : Nat) : seqS (EX (C_l_dip wf) 30) (defBody (topS 37)) = cb_l_dip wf := by kernel_rfl
def f_l_dip : Fn := mkF 3 [false, false] (cb_l_dip 400)

/-! l_take -/
abbrev N_l_take : List Str := ["_law_box", "_law_many", "_law_found", "_law_once", "_law_pair"]
abbrev P_l_take : List Str := ["_law_box", "_law_many"]
theorem sc_l_take : FnScope N_l_take P_l_take (defScope (topS 38)) := ⟨rfl, rfl, rfl, by decide +kernel, rfl, by decide +kernel, by decide +kernel⟩
def tb_l_take : List (Str × Nat × List Str × Fn) := []
def bl_l_take : List Str := []
def gt_l_take : List (Str × D) := []
def C_l_take (wf : Nat) : Cf := ⟨N_l_take, defScope (topS 38), fnsOf (tb_l_take), glOf gt_l_take, gdOf [], bltOf bl_l_take, wf, fun _ => true, ex_t⟩
def cb_l_take (wf : Nat) : S → Res Fl := sq [
    bnd (bnd (dat (subM (plS (pl0 0) (kI 0)) (bnd (pkS 0) fun _ => bnd (dat (ret (.d (.int 0)))) fun k => bnd (pkS 0) fun c => lift ((ixD c k).map T.d)))) fun x => bnd (dat (ret (.d (.int 0)))) fun y => lift (cmpD .Gt x y)) fun k => if k then (sq [
    bnd (bnd (dat (subM (plS (pl0 0) (kI 0)) (bnd (pkS 0) fun _ => bnd (dat (ret (.d (.int 0)))) fun k => bnd (pkS 0) fun c => lift ((ixD c k).map T.d)))) fun x => bnd (pkS 1) fun y => lift (binD .Mod x y)) fun t => bnd (setT 2 t) fun _ => ret .nx, 
    bnd (dat (bnd (dat (subM (plS (pl0 0) (kI 0)) (bnd (pkS 0) fun _ => bnd (dat (ret (.d (.int 0)))) fun k => bnd (pkS 0) fun c => lift ((ixD c k).map T.d)))) fun x => bnd (pkS 1) fun y => lift (binD .FloorDiv x y))) fun d => bnd (bnd (pkS 0) fun _ => bnd (dat (ret (.d (.int 0)))) fun k => bnd (chP (0, []) (putD k (d))) fun _ => ret ()) fun _ => ret .nx, 
    bnd (outS 2) fun t => ret (.rt t)]) else (sq []), 
    bnd (dat (bnd (dat (subM (plS (pl0 0) (kI 2)) (bnd (pkS 0) fun _ => bnd (dat (ret (.d (.int 2)))) fun k => bnd (pkS 0) fun c => lift ((ixD c k).map T.d)))) fun x => bnd (dat (ret (.d (.int 1)))) fun y => lift (binD .Add x y))) fun d => bnd (bnd (pkS 0) fun _ => bnd (dat (ret (.d (.int 2)))) fun k => bnd (chP (0, []) (putD k (d))) fun _ => ret ()) fun _ => ret .nx, 
    bnd (bnd (dat (bnd (dat (bnd (dat (subM (plS (pl0 0) (kI 1)) (bnd (pkS 0) fun _ => bnd (dat (ret (.d (.int 1)))) fun k => bnd (pkS 0) fun c => lift ((ixD c k).map T.d)))) fun x => bnd (dat (bnd (dat (ret (.d (.int 39373)))) fun x => bnd (pkM (plS (pl0 0) (kI 2)) (dat (subM (plS (pl0 0) (kI 2)) (bnd (pkS 0) fun _ => bnd (dat (ret (.d (.int 2)))) fun k => bnd (pkS 0) fun c => lift ((ixD c k).map T.d))))) fun y => lift (binD .Mult x y))) fun y => lift (binD .Add x y))) fun x => bnd (dat (ret (.d (.int 5)))) fun y => lift (binD .Pow x y))) fun x => bnd (dat (ret (.d (.int 2147483647)))) fun y => lift (binD .Mod x y)) fun t => bnd (setT 3 t) fun _ => ret .nx, 
    bnd (bnd (dat (bnd (dat (bnd (dat (bnd (pkS 3) fun _ => bnd (pkM (plS (pl0 0) (kI 2)) (dat (subM (plS (pl0 0) (kI 2)) (bnd (pkS 0) fun _ => bnd (dat (ret (.d (.int 2)))) fun k => bnd (pkS 0) fun c => lift ((ixD c k).map T.d))))) fun y => bnd (pkS 3) fun x => lift (binD .Add x y))) fun x => bnd (dat (bnd (dat (subM (plS (pl0 0) (kI 1)) (bnd (pkS 0) fun _ => bnd (dat (ret (.d (.int 1)))) fun k => bnd (pkS 0) fun c => lift ((ixD c k).map T.d)))) fun x => bnd (dat (ret (.d (.int 1000003)))) fun y => lift (binD .FloorDiv x y))) fun y => lift (binD .Add x y))) fun x => bnd (dat (bnd (dat (bnd (dat (bnd (pkS 3) fun _ => bnd (dat (ret (.d (.int 40009)))) fun y => bnd (pkS 3) fun x => lift (binD .Mod x y))) fun x => bnd (dat (ret (.d (.int 7)))) fun y => lift (binD .Add x y))) fun x => bnd (pkM (plS (pl0 0) (kI 2)) (dat (subM (plS (pl0 0) (kI 2)) (bnd (pkS 0) fun _ => bnd (dat (ret (.d (.int 2)))) fun k => bnd (pkS 0) fun c => lift ((ixD c k).map T.d))))) fun y => lift (binD .Add x y))) fun y => lift (binD .Mult x y))) fun x => bnd (dat (ret (.d (.int 2147483629)))) fun y => lift (binD .Mod x y)) fun t => bnd (setT 4 t) fun _ => ret .nx, 
    bnd (bnd (dat (bnd (dat (bnd (dat (bnd (dat (bnd (pkS 4) fun _ => bnd (dat (ret (.d (.int 48271)))) fun y => bnd (pkS 4) fun x => lift (binD .Mult x y))) fun x => bnd (pkS 3) fun y => lift (binD .Add x y))) fun x => bnd (dat (ret (.d (.int 2147483587)))) fun y => lift (binD .Mod x y))) fun x => bnd (dat (ret (.d (.int 64)))) fun y => lift (binD .FloorDiv x y))) fun x => bnd (pkS 1) fun y => lift (binD .Mod x y)) fun t => ret (.rt t)]
theorem bd_l_take (wf : Nat) : seqS (EX (C_l_take wf) 30) (defBody (topS 38)) = cb_l_take wf := by kernel_rfl
def f_l_take : Fn := mkF 5 [true, false] (cb_l_take 400)

/-! l_folded -/
abbrev N_l_folded : List Str := ["_law_script", "_law_many", "_law_cells", "_law_k", "_law_cell"]
abbrev P_l_folded : List Str := ["_law_script", "_law_many"]
theorem sc_l_folded : FnScope N_l_folded P_l_folded (defScope (topS 39)) := ⟨rfl, rfl, rfl, by decide +kernel, rfl, by decide +kernel, by decide +kernel⟩
def tb_l_folded : List (Str × Nat × List Str × Fn) := []
def bl_l_folded : List Str := ["list", "enumerate"]
def gt_l_folded : List (Str × D) := []
def C_l_folded (wf : Nat) : Cf := ⟨N_l_folded, defScope (topS 39), fnsOf (tb_l_folded), glOf gt_l_folded, gdOf [], bltOf bl_l_folded, wf, fun _ => true, ex_t⟩
def lb1_l_folded (wf : Nat) : S → Res Fl := sq [
    bnd (dat (bnd (dat (bnd (pkS 2) fun _ => bnd (dat (bnd (pkS 3) fun _ => bnd (pkS 1) fun y => bnd (pkS 3) fun x => lift (binD .Mod x y))) fun k => bnd (pkS 2) fun c => lift ((ixD c k).map T.d))) fun x => bnd (dat (bnd (pkS 4) fun _ => bnd (dat (bnd (pkS 3) fun _ => bnd (dat (ret (.d (.int 2)))) fun y => bnd (pkS 3) fun x => lift (binD .Add x y))) fun y => bnd (pkS 4) fun x => lift (binD .Mult x y))) fun y => lift (binD .Add x y))) fun d => bnd (bnd (pkS 2) fun _ => bnd (dat (bnd (pkS 3) fun _ => bnd (pkS 1) fun y => bnd (pkS 3) fun x => lift (binD .Mod x y))) fun k => bnd (chP (2, []) (putD k (d))) fun _ => ret ()) fun _ => ret .nx]
def cb_l_folded (wf : Nat) : S → Res Fl := sq [
    bnd (bnd (dat (bnd (pkS 0) fun _ => bnd (ret none) fun l => bnd (bnd (dat (bnd (rdS 1) fun d => ret (.d d))) fun d => lift ((intD d).map some)) fun h => bnd (pkS 0) fun c => lift (sliceD c l h))) fun c => lift ((seqD c).map fun ds => .l (ds.map T.d))) fun t => bnd (setT 2 t) fun _ => ret .nx, 
    bnd (bnd (dat (bnd (pkS 0) fun _ => bnd (bnd (dat (bnd (rdS 1) fun d => ret (.d d))) fun d => lift ((intD d).map some)) fun l => bnd (bnd (dat (ret (.d (.int 63)))) fun d => lift ((intD d).map some)) fun h => bnd (pkS 0) fun c => lift (sliceD c l h))) fun d => lift (enumD d)) fun ds => forL (fun x => asgTup [fun y => setT 3 (.d (y)), fun y => setT 4 (.d (y))] (x)) (lb1_l_folded wf) ds, 
    bnd (outS 2) fun t => ret (.rt t)]
theorem bd_l_folded (wf : Nat) : seqS (EX (C_l_folded wf) 30) (defBody (topS 39)) = cb_l_folded wf := by kernel_rfl
def f_l_folded : Fn := mkF 5 [false, false] (cb_l_folded 400)

/-! l_same -/
abbrev N_l_same : List Str := ["_law_found", "_law_due", "_law_key", "_law_one", "_law_two"]
abbrev P_l_same : List Str := ["_law_found", "_law_due"]
theorem sc_l_same : FnScope N_l_same P_l_same (defScope (topS 40)) := ⟨rfl, rfl, rfl, by decide +kernel, rfl, by decide +kernel, by decide +kernel⟩
def tb_l_same (rec : Fn) : List (Str × Nat × List Str × Fn) := [("_law_same", 2, [], rec)]
def bl_l_same : List Str := ["isinstance", "dict", "sorted", "all", "tuple", "list", "len", "zip", "bool", "str", "int"]
def gt_l_same : List (Str × D) := []
def C_l_same (rec : Fn) (wf : Nat) : Cf := ⟨N_l_same, defScope (topS 40), fnsOf (tb_l_same rec), glOf gt_l_same, gdOf [], bltOf bl_l_same, wf, fun _ => true, ex_t⟩
def it1_l_same (rec : Fn) (wf : Nat) : S → Res (List D) := bnd (dat (bnd (rdS 1) fun d => ret (.d d))) fun d => lift (seqD d)
def ce2_l_same (rec : Fn) (wf : Nat) : S → Res D := dat (bnd (argsM [.d (dat (subM (plS (pl0 0) (kN 2)) (bnd (pkS 0) fun _ => bnd (dat (bnd (rdS 2) fun d => ret (.d d))) fun k => bnd (pkS 0) fun c => lift ((ixD c k).map T.d)))), .d (dat (subM (plS (pl0 1) (kN 2)) (bnd (pkS 1) fun _ => bnd (dat (bnd (rdS 2) fun d => ret (.d d))) fun k => bnd (pkS 1) fun c => lift ((ixD c k).map T.d))))]) (callFn rec))
def it3_l_same (rec : Fn) (wf : Nat) : S → Res (List D) := bnd (dat (bnd (rdS 0) fun d => ret (.d d))) fun d => bnd (dat (bnd (rdS 1) fun d => ret (.d d))) fun d' => lift (zipD d d')
def ce4_l_same (rec : Fn) (wf : Nat) : S → Res D := dat (bnd (argsM [.d (dat (bnd (rdS 3) fun d => ret (.d d))), .d (dat (bnd (rdS 4) fun d => ret (.d d)))]) (callFn rec))
def cb_l_same (rec : Fn) (wf : Nat) : S → Res Fl := sq [
    bnd (bnd (dat (isiM (fun c => ex_t.isi c "dict") (fun t => some (isiD t "dict")) (pkS 1))) fun d => lift (truthD d)) fun k => if k then (sq [
    bnd (bnd (bnd (bnd (dat (isiM (fun c => ex_t.isi c "dict") (fun t => some (isiD t "dict")) (pkS 0))) fun d => lift (truthD d)) fun c => ret (!c)) fun c => if c then ret true else (bnd (dat (bnd (evD [dat (bnd (rdS 0) fun d => ret (.d d))]) fun ds => lift (bltD "sorted" ds))) fun x => bnd (dat (bnd (evD [dat (bnd (rdS 1) fun d => ret (.d d))]) fun ds => lift (bltD "sorted" ds))) fun y => lift (cmpD .NotEq x y))) fun k => if k then (sq [
    bnd (ret (.d (.bool false))) fun t => ret (.rt t)]) else (sq []), 
    bnd (bnd (evD [dat (cpr [2] (it1_l_same rec wf) (fun x => setT 2 (.d (x))) (ret true) (ce2_l_same rec wf))]) fun ds => lift (bltD "all" ds)) fun t => ret (.rt t)]) else (sq []), 
    bnd (bnd (dat (isiM (fun _ => none) (fun t => some (isiD t "list" || (isiD t "tuple" || (false)))) (pkS 1))) fun d => lift (truthD d)) fun k => if k then (sq [
    bnd (bnd (bnd (dat (isiM (fun c => ex_t.isi c "list") (fun t => some (isiD t "list")) (pkS 0))) fun x => bnd (dat (isiM (fun c => ex_t.isi c "list") (fun t => some (isiD t "list")) (pkS 1))) fun y => lift (cmpD .NotEq x y)) fun c => if c then ret true else (bnd (dat (isiM (fun c => ex_t.isi c "tuple") (fun t => some (isiD t "tuple")) (pkS 0))) fun x => bnd (dat (isiM (fun c => ex_t.isi c "tuple") (fun t => some (isiD t "tuple")) (pkS 1))) fun y => lift (cmpD .NotEq x y))) fun k => if k then (sq [
    bnd (ret (.d (.bool false))) fun t => ret (.rt t)]) else (sq []), 
    bnd (bnd (dat (bnd (bnd (dat (bnd (pkS 0) fun c => lift ((lenD c).map T.d))) fun x => bnd (dat (bnd (pkS 1) fun c => lift ((lenD c).map T.d))) fun y => lift (cmpD .Eq x y)) fun k => ret (.d (.bool k)))) fun x => bnd (lift (boolD x)) fun c => if c then (bnd (evD [dat (cpr [3, 4] (it3_l_same rec wf) (fun x => asgTup [fun y => setT 3 (.d (y)), fun y => setT 4 (.d (y))] (x)) (ret true) (ce4_l_same rec wf))]) fun ds => lift (bltD "all" ds)) else ret (.d (.bool false))) fun t => ret (.rt t)]) else (sq []), 
    bnd (bnd (bnd (pkS 1) fun _ => bnd (dat (ret (.d .none))) fun y => bnd (pkS 1) fun x => lift (cmpD .Is x y)) fun c => if c then ret true else (bnd (pkS 0) fun _ => bnd (dat (ret (.d .none))) fun y => bnd (pkS 0) fun x => lift (cmpD .Is x y))) fun k => if k then (sq [
    bnd (bnd (dat (bnd (bnd (pkS 1) fun _ => bnd (dat (ret (.d .none))) fun y => bnd (pkS 1) fun x => lift (cmpD .Is x y)) fun k => ret (.d (.bool k)))) fun x => bnd (lift (boolD x)) fun c => if c then (bnd (bnd (pkS 0) fun _ => bnd (dat (ret (.d .none))) fun y => bnd (pkS 0) fun x => lift (cmpD .Is x y)) fun k => ret (.d (.bool k))) else ret (.d (.bool false))) fun t => ret (.rt t)]) else (sq []), 
    bnd (bnd (bnd (dat (isiM (fun c => ex_t.isi c "bool") (fun t => some (isiD t "bool")) (pkS 1))) fun d => lift (truthD d)) fun c => if c then ret true else (bnd (dat (isiM (fun c => ex_t.isi c "str") (fun t => some (isiD t "str")) (pkS 1))) fun d => lift (truthD d))) fun k => if k then (sq [
    bnd (bnd (dat (bnd (bnd (dat (isiM (fun c => ex_t.isi c "bool") (fun t => some (isiD t "bool")) (pkS 0))) fun x => bnd (dat (isiM (fun c => ex_t.isi c "bool") (fun t => some (isiD t "bool")) (pkS 1))) fun y => lift (cmpD .Eq x y)) fun k => ret (.d (.bool k)))) fun x => bnd (lift (boolD x)) fun c => if c then (bnd (bnd (pkS 0) fun _ => bnd (pkS 1) fun y => bnd (pkS 0) fun x => lift (cmpD .Eq x y)) fun k => ret (.d (.bool k))) else ret (.d (.bool false))) fun t => ret (.rt t)]) else (sq []), 
    bnd (bnd (dat (isiM (fun c => ex_t.isi c "int") (fun t => some (isiD t "int")) (pkS 0))) fun x => bnd (lift (boolD x)) fun c => if c then (bnd (dat (bnd (dat (isiM (fun c => ex_t.isi c "bool") (fun t => some (isiD t "bool")) (pkS 0))) fun x => lift ((boolD x).map fun c => T.d (.bool (!c))))) fun x => bnd (lift (boolD x)) fun c => if c then (bnd (bnd (pkS 0) fun _ => bnd (pkS 1) fun y => bnd (pkS 0) fun x => lift (cmpD .Eq x y)) fun k => ret (.d (.bool k))) else ret (.d (.bool false))) else ret (.d (.bool false))) fun t => ret (.rt t)]
theorem bd_l_same (rec : Fn) (hg : rec.sig = [false, false]) (wf : Nat) : seqS (EX (C_l_same rec wf) 30) (defBody (topS 40)) = cb_l_same rec wf := by
  obtain ⟨_, _⟩ := rec
  cases hg
  kernel_rfl
def f_l_same : Nat → Fn
  | 0 => ⟨[false, false], fun _ _ => none⟩
  | n + 1 => mkF 5 [false, false] (cb_l_same (f_l_same n) 400)

/-! l_keywords -/
abbrev N_l_keywords : List Str := ["_law_found"]
abbrev P_l_keywords : List Str := []
theorem sc_l_keywords : FnScope N_l_keywords P_l_keywords (defScope (topS 41)) := ⟨rfl, rfl, rfl, by decide +kernel, rfl, by decide +kernel, by decide +kernel⟩
def tb_l_keywords : List (Str × Nat × List Str × Fn) := []
def bl_l_keywords : List Str := []
def gt_l_keywords : List (Str × D) := []
def C_l_keywords (wf : Nat) : Cf := ⟨N_l_keywords, defScope (topS 41), fnsOf (tb_l_keywords), glOf gt_l_keywords, gdOf [], bltOf bl_l_keywords, wf, fun _ => true, ex_t⟩
def cb_l_keywords (wf : Nat) : S → Res Fl := sq [
    bnd (ret (.d (.str "fixed sum less by pick late half twice most least over spring brook out beat"))) fun t => bnd (setT 0 t) fun _ => ret .nx, 
    bnd (methM "split" (dat (bnd (rdS 0) fun d => ret (.d d))) [dat (ret (.d (.str " ")))]) fun t => ret (.rt t)]
theorem bd_l_keywords (wf : Nat) : seqS (EX (C_l_keywords wf) 30) (defBody (topS 41)) = cb_l_keywords wf := by kernel_rfl
def f_l_keywords : Fn := mkF 1 [] (cb_l_keywords 400)

/-! l_own -/
abbrev N_l_own : List Str := ["_law_one", "_law_found", "_law_k", "_law_is_one"]
abbrev P_l_own : List Str := ["_law_one"]
theorem sc_l_own : FnScope N_l_own P_l_own (defScope (topS 42)) := ⟨rfl, rfl, rfl, by decide +kernel, rfl, by decide +kernel, by decide +kernel⟩
def tb_l_own : List (Str × Nat × List Str × Fn) := []
def bl_l_own : List Str := ["isinstance", "enumerate"]
def gt_l_own : List (Str × D) := []
def C_l_own (wf : Nat) : Cf := ⟨N_l_own, defScope (topS 42), fnsOf (tb_l_own), glOf gt_l_own, gdOf [], bltOf bl_l_own, wf, fun _ => true, ex_t⟩
def it1_l_own (wf : Nat) : S → Res (List D) := bnd (dat (bnd (rdS 1) fun d => ret (.d d))) fun d => lift (enumD d)
def ce2_l_own (wf : Nat) : S → Res D := dat (bnd (rdS 2) fun d => ret (.d d))
def cb_l_own (wf : Nat) : S → Res Fl := sq [
    bnd (lstM [isiM (fun c => ex_t.isi c "BadText") (fun t => none) (pkS 0), isiM (fun c => ex_t.isi c "BadWord") (fun t => none) (pkS 0), isiM (fun c => ex_t.isi c "BadRow") (fun t => none) (pkS 0), isiM (fun c => ex_t.isi c "BadName") (fun t => none) (pkS 0)]) fun t => bnd (setT 1 t) fun _ => ret .nx, 
    bnd (bnd (pkS 1) fun _ => bnd (dat (lstM [isiM (fun c => ex_t.isi c "BadTerm") (fun t => none) (pkS 0), isiM (fun c => ex_t.isi c "BadNumbers") (fun t => none) (pkS 0), isiM (fun c => ex_t.isi c "BadDeed") (fun t => none) (pkS 0)])) fun y => bnd (pkS 1) fun x => lift (binD .Add x y)) fun t => bnd (setT 1 t) fun _ => ret .nx, 
    bnd (bnd (pkS 1) fun _ => bnd (dat (lstM [isiM (fun c => ex_t.isi c "Clash") (fun t => none) (pkS 0), isiM (fun c => ex_t.isi c "Loose") (fun t => none) (pkS 0), isiM (fun c => ex_t.isi c "Round") (fun t => none) (pkS 0)])) fun y => bnd (pkS 1) fun x => lift (binD .Add x y)) fun t => bnd (setT 1 t) fun _ => ret .nx, 
    bnd (bnd (pkS 1) fun _ => bnd (dat (lstM [isiM (fun c => ex_t.isi c "NoBrook") (fun t => none) (pkS 0), isiM (fun c => ex_t.isi c "NoSpring") (fun t => none) (pkS 0), isiM (fun c => ex_t.isi c "NoName") (fun t => none) (pkS 0)])) fun y => bnd (pkS 1) fun x => lift (binD .Add x y)) fun t => bnd (setT 1 t) fun _ => ret .nx, 
    bnd (bnd (pkS 1) fun _ => bnd (dat (lstM [isiM (fun c => ex_t.isi c "NoOut") (fun t => none) (pkS 0), isiM (fun c => ex_t.isi c "NotGiven") (fun t => none) (pkS 0), isiM (fun c => ex_t.isi c "NoPath") (fun t => none) (pkS 0), isiM (fun c => ex_t.isi c "Dry") (fun t => none) (pkS 0)])) fun y => bnd (pkS 1) fun x => lift (binD .Add x y)) fun t => bnd (setT 1 t) fun _ => ret .nx, 
    bnd (bnd (pkS 1) fun _ => bnd (dat (lstM [isiM (fun c => ex_t.isi c "NotNow") (fun t => none) (pkS 0), isiM (fun c => ex_t.isi c "Used") (fun t => none) (pkS 0), isiM (fun c => ex_t.isi c "LastOut") (fun t => none) (pkS 0), isiM (fun c => ex_t.isi c "IsOut") (fun t => none) (pkS 0)])) fun y => bnd (pkS 1) fun x => lift (binD .Add x y)) fun t => bnd (setT 1 t) fun _ => ret .nx, 
    bnd (bnd (pkS 1) fun _ => bnd (dat (lstM [isiM (fun c => ex_t.isi c "NotOut") (fun t => none) (pkS 0), isiM (fun c => ex_t.isi c "Unsure") (fun t => none) (pkS 0), isiM (fun c => ex_t.isi c "TooFar") (fun t => none) (pkS 0)])) fun y => bnd (pkS 1) fun x => lift (binD .Add x y)) fun t => bnd (setT 1 t) fun _ => ret .nx, 
    bnd (bnd (pkS 1) fun _ => bnd (dat (lstM [isiM (fun c => ex_t.isi c "TooFew") (fun t => none) (pkS 0), isiM (fun c => ex_t.isi c "Small") (fun t => none) (pkS 0), isiM (fun c => ex_t.isi c "TooMany") (fun t => none) (pkS 0), isiM (fun c => ex_t.isi c "TooBig") (fun t => none) (pkS 0)])) fun y => bnd (pkS 1) fun x => lift (binD .Add x y)) fun t => bnd (setT 1 t) fun _ => ret .nx, 
    bnd (cpr [2, 3] (it1_l_own wf) (fun x => asgTup [fun y => setT 2 (.d (y)), fun y => setT 3 (.d (y))] (x)) (bnd (dat (bnd (rdS 3) fun d => ret (.d d))) fun d => lift (truthD d)) (ce2_l_own wf)) fun t => ret (.rt t)]
theorem bd_l_own (wf : Nat) : seqS (EX (C_l_own wf) 30) (defBody (topS 42)) = cb_l_own wf := by kernel_rfl
def f_l_own : Fn := mkF 4 [false] (cb_l_own 400)

/-! l_over -/
abbrev N_l_over : List Str := ["_law_one", "_law_words", "_law_found", "_law_word", "_law_is_one"]
abbrev P_l_over : List Str := ["_law_one"]
theorem sc_l_over : FnScope N_l_over P_l_over (defScope (topS 43)) := ⟨rfl, rfl, rfl, by decide +kernel, rfl, by decide +kernel, by decide +kernel⟩
def tb_l_over : List (Str × Nat × List Str × Fn) := []
def bl_l_over : List Str := ["isinstance", "zip"]
def gt_l_over : List (Str × D) := []
def C_l_over (wf : Nat) : Cf := ⟨N_l_over, defScope (topS 43), fnsOf (tb_l_over), glOf gt_l_over, gdOf [], bltOf bl_l_over, wf, fun _ => true, ex_t⟩
def it1_l_over (wf : Nat) : S → Res (List D) := bnd (dat (bnd (rdS 1) fun d => ret (.d d))) fun d => bnd (dat (bnd (rdS 2) fun d => ret (.d d))) fun d' => lift (zipD d d')
def ce2_l_over (wf : Nat) : S → Res D := dat (bnd (rdS 3) fun d => ret (.d d))
def cb_l_over (wf : Nat) : S → Res Fl := sq [
    bnd (lstD [dat (ret (.d (.str "value"))), dat (ret (.d (.str "key"))), dat (ret (.d (.str "lookup"))), dat (ret (.d (.str "index"))), dat (ret (.d (.str "run"))), dat (ret (.d (.str "sums"))), dat (ret (.d (.str "over"))), dat (ret (.d (.str "kind")))]) fun t => bnd (setT 1 t) fun _ => ret .nx, 
    bnd (lstM [isiM (fun c => ex_t.isi c "ValueError") (fun t => none) (pkS 0), isiM (fun c => ex_t.isi c "KeyError") (fun t => none) (pkS 0), isiM (fun c => ex_t.isi c "LookupError") (fun t => none) (pkS 0)]) fun t => bnd (setT 2 t) fun _ => ret .nx, 
    bnd (bnd (pkS 2) fun _ => bnd (dat (lstM [isiM (fun c => ex_t.isi c "IndexError") (fun t => none) (pkS 0), isiM (fun c => ex_t.isi c "RuntimeError") (fun t => none) (pkS 0), isiM (fun c => ex_t.isi c "ArithmeticError") (fun t => none) (pkS 0)])) fun y => bnd (pkS 2) fun x => lift (binD .Add x y)) fun t => bnd (setT 2 t) fun _ => ret .nx, 
    bnd (bnd (pkS 2) fun _ => bnd (dat (lstM [isiM (fun c => ex_t.isi c "OverflowError") (fun t => none) (pkS 0), isiM (fun c => ex_t.isi c "TypeError") (fun t => none) (pkS 0)])) fun y => bnd (pkS 2) fun x => lift (binD .Add x y)) fun t => bnd (setT 2 t) fun _ => ret .nx, 
    bnd (cpr [3, 4] (it1_l_over wf) (fun x => asgTup [fun y => setT 3 (.d (y)), fun y => setT 4 (.d (y))] (x)) (bnd (dat (bnd (rdS 4) fun d => ret (.d d))) fun d => lift (truthD d)) (ce2_l_over wf)) fun t => ret (.rt t)]
theorem bd_l_over (wf : Nat) : seqS (EX (C_l_over wf) 30) (defBody (topS 43)) = cb_l_over wf := by kernel_rfl
def f_l_over : Fn := mkF 5 [false] (cb_l_over 400)

/-! l_made -/
abbrev N_l_made : List Str := ["_law_a", "_law_found"]
abbrev P_l_made : List Str := ["_law_a"]
theorem sc_l_made : FnScope N_l_made P_l_made (defScope (topS 44)) := ⟨rfl, rfl, rfl, by decide +kernel, rfl, by decide +kernel, by decide +kernel⟩
def tb_l_made : List (Str × Nat × List Str × Fn) := []
def bl_l_made : List Str := []
def gt_l_made : List (Str × D) := []
def C_l_made (wf : Nat) : Cf := ⟨N_l_made, defScope (topS 44), fnsOf (tb_l_made), glOf gt_l_made, gdOf [], bltOf bl_l_made, wf, fun _ => true, ex_t⟩
def cb_l_made (wf : Nat) : S → Res Fl := sq [
    bnd (lstM [exM 31 "text" (dat (bnd (rdS 0) fun d => ret (.d d))), exM 51 "at" (dat (bnd (rdS 0) fun d => ret (.d d))), exM 71 "row" (dat (bnd (rdS 0) fun d => ret (.d d))), exM 91 "name" (dat (bnd (rdS 0) fun d => ret (.d d))), exM 111 "thing" (dat (bnd (rdS 0) fun d => ret (.d d))), exM 131 "thing" (dat (bnd (rdS 0) fun d => ret (.d d))), exM 151 "number" (dat (bnd (rdS 0) fun d => ret (.d d))), exM 171 "number" (dat (bnd (rdS 0) fun d => ret (.d d))), exM 191 "place" (dat (bnd (rdS 0) fun d => ret (.d d)))]) fun t => bnd (setT 1 t) fun _ => ret .nx, 
    bnd (bnd (pkS 1) fun _ => bnd (dat (lstM [exM 211 "ring" (dat (bnd (rdS 0) fun d => ret (.d d))), exM 231 "name" (dat (bnd (rdS 0) fun d => ret (.d d))), exM 251 "name" (dat (bnd (rdS 0) fun d => ret (.d d))), exM 271 "name" (dat (bnd (rdS 0) fun d => ret (.d d))), exM 291 "out" (dat (bnd (rdS 0) fun d => ret (.d d))), exM 311 "name" (dat (bnd (rdS 0) fun d => ret (.d d))), exM 331 "path" (dat (bnd (rdS 0) fun d => ret (.d d))), exM 351 "name" (dat (bnd (rdS 0) fun d => ret (.d d)))])) fun y => bnd (pkS 1) fun x => lift (binD .Add x y)) fun t => bnd (setT 1 t) fun _ => ret .nx, 
    bnd (bnd (pkS 1) fun _ => bnd (dat (lstM [exM 371 "at" (dat (bnd (rdS 0) fun d => ret (.d d))), exM 391 "other" (dat (bnd (rdS 0) fun d => ret (.d d))), exM 411 "name" (dat (bnd (rdS 0) fun d => ret (.d d))), exM 431 "name" (dat (bnd (rdS 0) fun d => ret (.d d))), exM 451 "name" (dat (bnd (rdS 0) fun d => ret (.d d))), exM 471 "node" (dat (bnd (rdS 0) fun d => ret (.d d))), exM 491 "place" (dat (bnd (rdS 0) fun d => ret (.d d))), exM 511 "need" (dat (bnd (rdS 0) fun d => ret (.d d))), exM 531 "place" (dat (bnd (rdS 0) fun d => ret (.d d)))])) fun y => bnd (pkS 1) fun x => lift (binD .Add x y)) fun t => bnd (setT 1 t) fun _ => ret .nx, 
    bnd (bnd (pkS 1) fun _ => bnd (dat (lstM [exM 551 "most" (dat (bnd (rdS 0) fun d => ret (.d d))), ret (.d (.dict [(.none, .int 571)]))])) fun y => bnd (pkS 1) fun x => lift (binD .Add x y)) fun t => ret (.rt t)]
theorem bd_l_made (wf : Nat) : seqS (EX (C_l_made wf) 30) (defBody (topS 44)) = cb_l_made wf := by kernel_rfl
def f_l_made : Fn := mkF 2 [false] (cb_l_made 400)

/-! l_called -/
abbrev N_l_called : List Str := ["_law_a", "_law_found"]
abbrev P_l_called : List Str := ["_law_a"]
theorem sc_l_called : FnScope N_l_called P_l_called (defScope (topS 45)) := ⟨rfl, rfl, rfl, by decide +kernel, rfl, by decide +kernel, by decide +kernel⟩
def tb_l_called : List (Str × Nat × List Str × Fn) := []
def bl_l_called : List Str := []
def gt_l_called : List (Str × D) := []
def C_l_called (wf : Nat) : Cf := ⟨N_l_called, defScope (topS 45), fnsOf (tb_l_called), glOf gt_l_called, gdOf [], bltOf bl_l_called, wf, fun _ => true, ex_t⟩
def cb_l_called (wf : Nat) : S → Res Fl := sq [
    bnd (lstM [exM 31 "text" (dat (bnd (rdS 0) fun d => ret (.d d))), exM 51 "at" (dat (bnd (rdS 0) fun d => ret (.d d))), exM 71 "row" (dat (bnd (rdS 0) fun d => ret (.d d))), exM 91 "name" (dat (bnd (rdS 0) fun d => ret (.d d))), exM 111 "thing" (dat (bnd (rdS 0) fun d => ret (.d d))), exM 131 "thing" (dat (bnd (rdS 0) fun d => ret (.d d)))]) fun t => bnd (setT 1 t) fun _ => ret .nx, 
    bnd (bnd (pkS 1) fun _ => bnd (dat (lstM [exM 151 "number" (dat (bnd (rdS 0) fun d => ret (.d d))), exM 171 "number" (dat (bnd (rdS 0) fun d => ret (.d d))), exM 191 "place" (dat (bnd (rdS 0) fun d => ret (.d d))), exM 211 "ring" (dat (bnd (rdS 0) fun d => ret (.d d))), exM 231 "name" (dat (bnd (rdS 0) fun d => ret (.d d)))])) fun y => bnd (pkS 1) fun x => lift (binD .Add x y)) fun t => bnd (setT 1 t) fun _ => ret .nx, 
    bnd (bnd (pkS 1) fun _ => bnd (dat (lstM [exM 251 "name" (dat (bnd (rdS 0) fun d => ret (.d d))), exM 271 "name" (dat (bnd (rdS 0) fun d => ret (.d d))), exM 291 "out" (dat (bnd (rdS 0) fun d => ret (.d d))), exM 311 "name" (dat (bnd (rdS 0) fun d => ret (.d d))), exM 331 "path" (dat (bnd (rdS 0) fun d => ret (.d d))), exM 351 "name" (dat (bnd (rdS 0) fun d => ret (.d d)))])) fun y => bnd (pkS 1) fun x => lift (binD .Add x y)) fun t => bnd (setT 1 t) fun _ => ret .nx, 
    bnd (bnd (pkS 1) fun _ => bnd (dat (lstM [exM 371 "at" (dat (bnd (rdS 0) fun d => ret (.d d))), exM 391 "other" (dat (bnd (rdS 0) fun d => ret (.d d))), exM 411 "name" (dat (bnd (rdS 0) fun d => ret (.d d))), exM 431 "name" (dat (bnd (rdS 0) fun d => ret (.d d))), exM 451 "name" (dat (bnd (rdS 0) fun d => ret (.d d))), exM 471 "node" (dat (bnd (rdS 0) fun d => ret (.d d)))])) fun y => bnd (pkS 1) fun x => lift (binD .Add x y)) fun t => bnd (setT 1 t) fun _ => ret .nx, 
    bnd (bnd (pkS 1) fun _ => bnd (dat (lstM [exM 491 "place" (dat (bnd (rdS 0) fun d => ret (.d d))), exM 511 "need" (dat (bnd (rdS 0) fun d => ret (.d d))), exM 531 "place" (dat (bnd (rdS 0) fun d => ret (.d d))), exM 551 "most" (dat (bnd (rdS 0) fun d => ret (.d d))), ret (.d (.dict [(.none, .int 571)]))])) fun y => bnd (pkS 1) fun x => lift (binD .Add x y)) fun t => ret (.rt t)]
theorem bd_l_called (wf : Nat) : seqS (EX (C_l_called wf) 30) (defBody (topS 45)) = cb_l_called wf := by kernel_rfl
def f_l_called : Fn := mkF 2 [false] (cb_l_called 400)

/-! l_fields -/
abbrev N_l_fields : List Str := ["_law_e", "_law_found"]
abbrev P_l_fields : List Str := ["_law_e"]
theorem sc_l_fields : FnScope N_l_fields P_l_fields (defScope (topS 46)) := ⟨rfl, rfl, rfl, by decide +kernel, rfl, by decide +kernel, by decide +kernel⟩
def tb_l_fields : List (Str × Nat × List Str × Fn) := []
def bl_l_fields : List Str := []
def gt_l_fields : List (Str × D) := []
def C_l_fields (wf : Nat) : Cf := ⟨N_l_fields, defScope (topS 46), fnsOf (tb_l_fields), glOf gt_l_fields, gdOf [], bltOf bl_l_fields, wf, fun _ => true, ex_t⟩
def cb_l_fields (wf : Nat) : S → Res Fl := sq [
    bnd (lstD [dat (bnd (dat (subM (plS (pl0 0) (kI 0)) (bnd (pkS 0) fun _ => bnd (dat (ret (.d (.int 0)))) fun k => bnd (pkS 0) fun c => lift ((ixD c k).map T.d)))) fun d => lift (attD ex_t "text" d)), dat (bnd (dat (subM (plS (pl0 0) (kI 1)) (bnd (pkS 0) fun _ => bnd (dat (ret (.d (.int 1)))) fun k => bnd (pkS 0) fun c => lift ((ixD c k).map T.d)))) fun d => lift (attD ex_t "at" d)), dat (bnd (dat (subM (plS (pl0 0) (kI 2)) (bnd (pkS 0) fun _ => bnd (dat (ret (.d (.int 2)))) fun k => bnd (pkS 0) fun c => lift ((ixD c k).map T.d)))) fun d => lift (attD ex_t "row" d)), dat (bnd (dat (subM (plS (pl0 0) (kI 3)) (bnd (pkS 0) fun _ => bnd (dat (ret (.d (.int 3)))) fun k => bnd (pkS 0) fun c => lift ((ixD c k).map T.d)))) fun d => lift (attD ex_t "name" d)), dat (bnd (dat (subM (plS (pl0 0) (kI 4)) (bnd (pkS 0) fun _ => bnd (dat (ret (.d (.int 4)))) fun k => bnd (pkS 0) fun c => lift ((ixD c k).map T.d)))) fun d => lift (attD ex_t "thing" d)), dat (bnd (dat (subM (plS (pl0 0) (kI 5)) (bnd (pkS 0) fun _ => bnd (dat (ret (.d (.int 5)))) fun k => bnd (pkS 0) fun c => lift ((ixD c k).map T.d)))) fun d => lift (attD ex_t "thing" d)), dat (bnd (dat (subM (plS (pl0 0) (kI 6)) (bnd (pkS 0) fun _ => bnd (dat (ret (.d (.int 6)))) fun k => bnd (pkS 0) fun c => lift ((ixD c k).map T.d)))) fun d => lift (attD ex_t "number" d)), dat (bnd (dat (subM (plS (pl0 0) (kI 7)) (bnd (pkS 0) fun _ => bnd (dat (ret (.d (.int 7)))) fun k => bnd (pkS 0) fun c => lift ((ixD c k).map T.d)))) fun d => lift (attD ex_t "number" d)), dat (bnd (dat (subM (plS (pl0 0) (kI 8)) (bnd (pkS 0) fun _ => bnd (dat (ret (.d (.int 8)))) fun k => bnd (pkS 0) fun c => lift ((ixD c k).map T.d)))) fun d => lift (attD ex_t "place" d))]) fun t => bnd (setT 1 t) fun _ => ret .nx, 
    bnd (bnd (pkS 1) fun _ => bnd (dat (lstD [dat (bnd (dat (subM (plS (pl0 0) (kI 9)) (bnd (pkS 0) fun _ => bnd (dat (ret (.d (.int 9)))) fun k => bnd (pkS 0) fun c => lift ((ixD c k).map T.d)))) fun d => lift (attD ex_t "ring" d)), dat (bnd (dat (subM (plS (pl0 0) (kI 10)) (bnd (pkS 0) fun _ => bnd (dat (ret (.d (.int 10)))) fun k => bnd (pkS 0) fun c => lift ((ixD c k).map T.d)))) fun d => lift (attD ex_t "name" d)), dat (bnd (dat (subM (plS (pl0 0) (kI 11)) (bnd (pkS 0) fun _ => bnd (dat (ret (.d (.int 11)))) fun k => bnd (pkS 0) fun c => lift ((ixD c k).map T.d)))) fun d => lift (attD ex_t "name" d)), dat (bnd (dat (subM (plS (pl0 0) (kI 12)) (bnd (pkS 0) fun _ => bnd (dat (ret (.d (.int 12)))) fun k => bnd (pkS 0) fun c => lift ((ixD c k).map T.d)))) fun d => lift (attD ex_t "name" d)), dat (bnd (dat (subM (plS (pl0 0) (kI 13)) (bnd (pkS 0) fun _ => bnd (dat (ret (.d (.int 13)))) fun k => bnd (pkS 0) fun c => lift ((ixD c k).map T.d)))) fun d => lift (attD ex_t "out" d)), dat (bnd (dat (subM (plS (pl0 0) (kI 14)) (bnd (pkS 0) fun _ => bnd (dat (ret (.d (.int 14)))) fun k => bnd (pkS 0) fun c => lift ((ixD c k).map T.d)))) fun d => lift (attD ex_t "name" d)), dat (bnd (dat (subM (plS (pl0 0) (kI 15)) (bnd (pkS 0) fun _ => bnd (dat (ret (.d (.int 15)))) fun k => bnd (pkS 0) fun c => lift ((ixD c k).map T.d)))) fun d => lift (attD ex_t "path" d)), dat (bnd (dat (subM (plS (pl0 0) (kI 16)) (bnd (pkS 0) fun _ => bnd (dat (ret (.d (.int 16)))) fun k => bnd (pkS 0) fun c => lift ((ixD c k).map T.d)))) fun d => lift (attD ex_t "name" d))])) fun y => bnd (pkS 1) fun x => lift (binD .Add x y)) fun t => bnd (setT 1 t) fun _ => ret .nx, 
    bnd (bnd (pkS 1) fun _ => bnd (dat (lstD [dat (bnd (dat (subM (plS (pl0 0) (kI 17)) (bnd (pkS 0) fun _ => bnd (dat (ret (.d (.int 17)))) fun k => bnd (pkS 0) fun c => lift ((ixD c k).map T.d)))) fun d => lift (attD ex_t "at" d)), dat (bnd (dat (subM (plS (pl0 0) (kI 18)) (bnd (pkS 0) fun _ => bnd (dat (ret (.d (.int 18)))) fun k => bnd (pkS 0) fun c => lift ((ixD c k).map T.d)))) fun d => lift (attD ex_t "other" d)), dat (bnd (dat (subM (plS (pl0 0) (kI 19)) (bnd (pkS 0) fun _ => bnd (dat (ret (.d (.int 19)))) fun k => bnd (pkS 0) fun c => lift ((ixD c k).map T.d)))) fun d => lift (attD ex_t "name" d)), dat (bnd (dat (subM (plS (pl0 0) (kI 20)) (bnd (pkS 0) fun _ => bnd (dat (ret (.d (.int 20)))) fun k => bnd (pkS 0) fun c => lift ((ixD c k).map T.d)))) fun d => lift (attD ex_t "name" d)), dat (bnd (dat (subM (plS (pl0 0) (kI 21)) (bnd (pkS 0) fun _ => bnd (dat (ret (.d (.int 21)))) fun k => bnd (pkS 0) fun c => lift ((ixD c k).map T.d)))) fun d => lift (attD ex_t "name" d)), dat (bnd (dat (subM (plS (pl0 0) (kI 22)) (bnd (pkS 0) fun _ => bnd (dat (ret (.d (.int 22)))) fun k => bnd (pkS 0) fun c => lift ((ixD c k).map T.d)))) fun d => lift (attD ex_t "node" d)), dat (bnd (dat (subM (plS (pl0 0) (kI 23)) (bnd (pkS 0) fun _ => bnd (dat (ret (.d (.int 23)))) fun k => bnd (pkS 0) fun c => lift ((ixD c k).map T.d)))) fun d => lift (attD ex_t "place" d)), dat (bnd (dat (subM (plS (pl0 0) (kI 24)) (bnd (pkS 0) fun _ => bnd (dat (ret (.d (.int 24)))) fun k => bnd (pkS 0) fun c => lift ((ixD c k).map T.d)))) fun d => lift (attD ex_t "need" d))])) fun y => bnd (pkS 1) fun x => lift (binD .Add x y)) fun t => bnd (setT 1 t) fun _ => ret .nx, 
    bnd (bnd (pkS 1) fun _ => bnd (dat (lstD [dat (bnd (dat (subM (plS (pl0 0) (kI 25)) (bnd (pkS 0) fun _ => bnd (dat (ret (.d (.int 25)))) fun k => bnd (pkS 0) fun c => lift ((ixD c k).map T.d)))) fun d => lift (attD ex_t "place" d)), dat (bnd (dat (subM (plS (pl0 0) (kI 26)) (bnd (pkS 0) fun _ => bnd (dat (ret (.d (.int 26)))) fun k => bnd (pkS 0) fun c => lift ((ixD c k).map T.d)))) fun d => lift (attD ex_t "most" d))])) fun y => bnd (pkS 1) fun x => lift (binD .Add x y)) fun t => ret (.rt t)]
theorem bd_l_fields (wf : Nat) : seqS (EX (C_l_fields wf) 30) (defBody (topS 46)) = cb_l_fields wf := by kernel_rfl
def f_l_fields : Fn := mkF 2 [false] (cb_l_fields 400)

/-! l_odd -/
abbrev N_l_odd : List Str := ["_law_box", "_law_pool"]
abbrev P_l_odd : List Str := ["_law_box"]
theorem sc_l_odd : FnScope N_l_odd P_l_odd (defScope (topS 47)) := ⟨rfl, rfl, rfl, by decide +kernel, rfl, by decide +kernel, by decide +kernel⟩
def tb_l_odd : List (Str × Nat × List Str × Fn) := [("_law_take", 2, [], f_l_take)]
def bl_l_odd : List Str := []
def gt_l_odd : List (Str × D) := []
def C_l_odd (wf : Nat) : Cf := ⟨N_l_odd, defScope (topS 47), fnsOf (tb_l_odd), glOf gt_l_odd, gdOf [], bltOf bl_l_odd, wf, fun _ => true, ex_t⟩
def cb_l_odd (wf : Nat) : S → Res Fl := sq [
    bnd (lstD [dat (bnd (argsM [.c 0, .d (dat (bnd (dat (ret (.d (.int 10)))) fun x => bnd (dat (ret (.d (.int 6)))) fun y => lift (binD .Pow x y)))]) (callFn f_l_take)), dat (ret (.d (.str "ann"))), dat (tupM [dat (ret (.d (.int 1))), dat (ret (.d (.int 2)))]), dat (tupM [dat (ret (.d (.str "late"))), dat (tupM [dat (ret (.d (.int 1))), dat (ret (.d (.int 2)))]), dat (tupM [dat (ret (.d (.str "name"))), dat (ret (.d (.str "a")))])]), dat (lstD [dat (ret (.d (.str "get"))), dat (ret (.d (.str "put")))]), dat (ret (.d .none)), dat (ret (.d (.str ""))), dat (tupM [])]) fun t => bnd (setT 1 t) fun _ => ret .nx, 
    bnd (bnd (dat (bnd (pkS 1) fun _ => bnd (dat (lstD [dat (ret (.d (.str "1/2"))), dat (bnd (dat (ret (.d (.int 3)))) fun x => lift ((negD x).map T.d))])) fun y => bnd (pkS 1) fun x => lift (binD .Add x y))) fun c => bnd (dat (bnd (argsM [.c 0, .d (dat (ret (.d (.int 10))))]) (callFn f_l_take))) fun k => lift ((ixD c k).map T.d)) fun t => ret (.rt t)]
theorem bd_l_odd (wf : Nat) : seqS (EX (C_l_odd wf) 30) (defBody (topS 47)) = cb_l_odd wf := by kernel_rfl
def f_l_odd : Fn := mkF 2 [true] (cb_l_odd 400)

/-! l_right -/
abbrev N_l_right : List Str := ["_law_a", "_law_higher", "_law_made_here", "_law_one", "_law_k"]
abbrev P_l_right : List Str := ["_law_a"]
theorem sc_l_right : FnScope N_l_right P_l_right (defScope (topS 48)) := ⟨rfl, rfl, rfl, by decide +kernel, rfl, by decide +kernel, by decide +kernel⟩
def tb_l_right : List (Str × Nat × List Str × Fn) := [("_law_made", 1, [], f_l_made), ("_law_called", 1, [], f_l_called), ("_law_own", 1, [], f_l_own), ("_law_over", 1, [], f_l_over), ("_law_same", 2, [], (f_l_same 6)), ("_law_fields", 1, [], f_l_fields)]
def bl_l_right : List Str := ["range"]
def gt_l_right : List (Str × D) := []
def C_l_right (wf : Nat) : Cf := ⟨N_l_right, defScope (topS 48), fnsOf (tb_l_right), glOf gt_l_right, gdOf [], bltOf bl_l_right, wf, fun _ => true, ex_t⟩
def it1_l_right (wf : Nat) : S → Res (List D) := bnd (dat (bnd (rdS 2) fun d => ret (.d d))) fun d => lift (seqD d)
def ce2_l_right (wf : Nat) : S → Res D := dat (bnd (argsM [.d (dat (bnd (rdS 3) fun d => ret (.d d)))]) (callFn f_l_own))
def it3_l_right (wf : Nat) : S → Res (List D) := bnd (dat (ret (.d (.int 28)))) fun d => lift (rngD d)
def ce4_l_right (wf : Nat) : S → Res D := dat (lstD [dat (bnd (rdS 4) fun d => ret (.d d))])
def it5_l_right (wf : Nat) : S → Res (List D) := bnd (dat (bnd (rdS 2) fun d => ret (.d d))) fun d => lift (seqD d)
def ce6_l_right (wf : Nat) : S → Res D := dat (bnd (argsM [.d (dat (bnd (rdS 3) fun d => ret (.d d)))]) (callFn f_l_over))
def lb7_l_right (wf : Nat) : S → Res Fl := sq [
    bnd (bnd (bnd (dat (cpr [3] (it1_l_right wf) (fun x => setT 3 (.d (x))) (ret true) (ce2_l_right wf))) fun x => bnd (dat (cpr [4] (it3_l_right wf) (fun x => setT 4 (.d (x))) (ret true) (ce4_l_right wf))) fun y => lift (cmpD .NotEq x y)) fun c => if c then ret true else (bnd (dat (cpr [3] (it5_l_right wf) (fun x => setT 3 (.d (x))) (ret true) (ce6_l_right wf))) fun x => bnd (pkS 1) fun y => lift (cmpD .NotEq x y))) fun k => if k then (sq [
    bnd (ret (.d (.bool false))) fun t => ret (.rt t)]) else (sq []), 
    bnd (bnd (bnd (dat (bnd (argsM [.d (dat (bnd (argsM [.d (dat (bnd (rdS 2) fun d => ret (.d d)))]) (callFn f_l_fields))), .d (dat (bnd (lstD [dat (bnd (rdS 0) fun d => ret (.d d))]) fun t => bnd (dat (ret (.d (.int 27)))) fun y => lift (repT t y)))]) (callFn (f_l_same 6)))) fun d => lift (truthD d)) fun c => ret (!c)) fun k => if k then (sq [
    bnd (ret (.d (.bool false))) fun t => ret (.rt t)]) else (sq [])]
def cb_l_right (wf : Nat) : S → Res Fl := sq [
    bnd (bnd (dat (bnd (dat (bnd (dat (bnd (dat (bnd (lstM [lstD [dat (ret (.d (.str "value")))]]) fun t => bnd (dat (ret (.d (.int 10)))) fun y => lift (repT t y))) fun x => bnd (dat (bnd (lstM [lstD [dat (ret (.d (.str "key"))), dat (ret (.d (.str "lookup")))]]) fun t => bnd (dat (ret (.d (.int 5)))) fun y => lift (repT t y))) fun y => lift (binD .Add x y))) fun x => bnd (dat (bnd (lstM [lstD [dat (ret (.d (.str "lookup")))]]) fun t => bnd (dat (ret (.d (.int 2)))) fun y => lift (repT t y))) fun y => lift (binD .Add x y))) fun x => bnd (dat (bnd (lstM [lstD [dat (ret (.d (.str "run")))]]) fun t => bnd (dat (ret (.d (.int 6)))) fun y => lift (repT t y))) fun y => lift (binD .Add x y))) fun x => bnd (dat (bnd (lstM [lstD [dat (ret (.d (.str "sums"))), dat (ret (.d (.str "over")))]]) fun t => bnd (dat (ret (.d (.int 5)))) fun y => lift (repT t y))) fun y => lift (binD .Add x y)) fun t => bnd (setT 1 t) fun _ => ret .nx, 
    bnd (bnd (dat (tupM [dat (bnd (argsM [.d (dat (bnd (rdS 0) fun d => ret (.d d)))]) (callFn f_l_made)), dat (bnd (argsM [.d (dat (bnd (rdS 0) fun d => ret (.d d)))]) (callFn f_l_called))])) fun d => lift (seqD d)) fun ds => forL (fun x => setT 2 (.d (x))) (lb7_l_right wf) ds, 
    bnd (ret (.d (.bool true))) fun t => ret (.rt t)]
theorem bd_l_right (wf : Nat) : seqS (EX (C_l_right wf) 30) (defBody (topS 48)) = cb_l_right wf := by kernel_rfl
def f_l_right : Fn := mkF 5 [false] (cb_l_right 400)

/-! law -/
abbrev N_law : List Str := ["_law_script", "_law_cells", "_law_k", "_law_box", "_law_found", "_law_turn"]
abbrev P_law : List Str := ["_law_script"]
theorem sc_law : FnScope N_law P_law (defScope (topS 49)) := ⟨rfl, rfl, rfl, by decide +kernel, rfl, by decide +kernel, by decide +kernel⟩
def tb_law : List (Str × Nat × List Str × Fn) := [("_law_folded", 2, [], f_l_folded), ("_law_dip", 2, [], f_l_dip), ("_law_right", 1, [], f_l_right), ("_law_odd", 1, [], f_l_odd), ("_law_same", 2, [], (f_l_same 6)), ("_law_keywords", 0, [], f_l_keywords)]
def bl_law : List Str := ["range", "len", "all", "tuple"]
def gt_law : List (Str × D) := [("KEYWORDS", gl_KEYWORDS), ("SIZE", gl_SIZE), ("MOST_BOXES", gl_MOST_BOXES), ("WIDE", gl_WIDE), ("FIGURES", gl_FIGURES), ("FINE", gl_FINE), ("MOST_WAYS", gl_MOST_WAYS)]
def C_law (wf : Nat) : Cf := ⟨N_law, defScope (topS 49), fnsOf (tb_law), glOf gt_law, gdOf [], bltOf bl_law, wf, fun _ => true, ex_t⟩
def it1_law (wf : Nat) : S → Res (List D) := bnd (dat (ret (.d (.int 8)))) fun d => lift (rngD d)
def ce2_law (wf : Nat) : S → Res D := dat (bnd (argsM [.d (dat (bnd (argsM [.c 3]) (callFn f_l_odd)))]) (callFn f_l_right))
def lb3_law (wf : Nat) : S → Res Fl := sq [
    bnd (bnd (argsM [.d (dat (bnd (rdS 1) fun d => ret (.d d))), .d (dat (bnd (rdS 2) fun d => ret (.d d)))]) (callFn f_l_dip)) fun t => bnd (setT 3 t) fun _ => ret .nx, 
    bnd (bnd (bnd (dat (bnd (evD [dat (cpr [5] (it1_law wf) (fun x => setT 5 (.d (x))) (ret true) (ce2_law wf))]) fun ds => lift (bltD "all" ds))) fun d => lift (truthD d)) fun c => ret (!c)) fun k => if k then (sq [
    bnd (ret (.d (.bool false))) fun t => ret (.rt t)]) else (sq [])]
def cb_law (wf : Nat) : S → Res Fl := sq [
    bnd (bnd (argsM [.d (dat (bnd (rdS 0) fun d => ret (.d d))), .d (dat (ret (.d (.int 2))))]) (callFn f_l_folded)) fun t => bnd (setT 1 t) fun _ => ret .nx, 
    bnd (bnd (dat (bnd (dat (ret (.d (.int 1)))) fun x => bnd (dat (bnd (pkS 1) fun c => lift ((lenD c).map T.d))) fun y => lift (binD .Add x y))) fun d => lift (rngD d)) fun ds => forL (fun x => setT 2 (.d (x))) (lb3_law wf) ds, 
    bnd (lstD [dat (bnd (lift (some gl_KEYWORDS)) fun d => ret (.d d)), dat (bnd (lift (some gl_SIZE)) fun d => ret (.d d)), dat (bnd (lift (some gl_MOST_BOXES)) fun d => ret (.d d)), dat (bnd (lift (some gl_WIDE)) fun d => ret (.d d)), dat (bnd (lift (some gl_FIGURES)) fun d => ret (.d d)), dat (bnd (lift (some gl_FINE)) fun d => ret (.d d)), dat (bnd (lift (some gl_MOST_WAYS)) fun d => ret (.d d))]) fun t => bnd (setT 4 t) fun _ => ret .nx, 
    bnd (bnd (argsM [.d (dat (bnd (rdS 4) fun d => ret (.d d))), .d (dat (lstD [dat (bnd (evD [dat (bnd (argsM []) (callFn f_l_keywords))]) fun ds => lift (bltD "tuple" ds)), dat (ret (.d (.int 8))), dat (ret (.d (.int 120))), dat (ret (.d (.int 24))), dat (ret (.d (.int 8))), dat (ret (.d (.int 6))), dat (ret (.d (.int 300)))]))]) (callFn (f_l_same 6))) fun t => ret (.rt t)]
theorem bd_law (wf : Nat) : seqS (EX (C_law wf) 30) (defBody (topS 49)) = cb_law wf := by kernel_rfl
def f_law : Fn := mkF 6 [false] (cb_law 400)

end K01
end

set_option Elab.async false
set_option linter.all false
set_option maxRecDepth 100000
set_option maxHeartbeats 4000000
noncomputable section
namespace K01
open PySem L2 PySem.Spec Nw
theorem dip_eq : f_l_dip = fDip := rfl
theorem take_eq : f_l_take = fTake := rfl
theorem folded_eq : f_l_folded = fFolded := rfl
theorem same_eq : ∀ n, f_l_same n = fSame ex_t n
  | 0 => rfl
  | n + 1 => by
    show mkF 5 [false, false] (cb_l_same (f_l_same n) 400) = mkF 5 [false, false] (p_same ex_t (fSame ex_t n))
    rw [same_eq n]
    rfl
def xd (c : Int) (f : Str) (a : D) : D := .dict [(.none, .int c), (.str f, a)]
def made (a : D) : List D := [xd 31 "text" a, xd 51 "at" a, xd 71 "row" a, xd 91 "name" a, xd 111 "thing" a, xd 131 "thing" a, xd 151 "number" a, xd 171 "number" a, xd 191 "place" a, xd 211 "ring" a, xd 231 "name" a, xd 251 "name" a, xd 271 "name" a, xd 291 "out" a, xd 311 "name" a, xd 331 "path" a, xd 351 "name" a, xd 371 "at" a, xd 391 "other" a, xd 411 "name" a, xd 431 "name" a, xd 451 "name" a, xd 471 "node" a, xd 491 "place" a, xd 511 "need" a, xd 531 "place" a, xd 551 "most" a, .dict [(.none, .int 571)]]
def rep27 (a : D) : List D := List.replicate 27 a
theorem ev_made (a : D) : f_l_made.run [a] [] = some (.val (.l ((made a).map T.d)) []) := by kernel_rfl
theorem ev_called (a : D) : f_l_called.run [a] [] = some (.val (.l ((made a).map T.d)) []) := by kernel_rfl
theorem ev_fields (a : D) : f_l_fields.run [.list (made a)] [] = some (.val (.l ((rep27 a).map T.d)) []) := by kernel_rfl
def kw : List Str := ["fixed", "sum", "less", "by", "pick", "late", "half", "twice", "most", "least", "over", "spring", "brook", "out", "beat"]
theorem ev_keywords : f_l_keywords.run [] [] = some (.val (.l ((kw.map PyData.str).map T.d)) []) := by kernel_rfl
def ks : List D := (List.range 28).map fun k => .list [.int (k : Nat)]
def st (xs : List Str) : D := .list (xs.map .str)
def hs : List D := List.replicate 10 (st ["value"]) ++ List.replicate 5 (st ["key", "lookup"]) ++ List.replicate 2 (st ["lookup"]) ++ List.replicate 6 (st ["run"]) ++ List.replicate 5 (st ["sums", "over"])
theorem ev_owns (a : D) (h : Sl) : cpr [3] (it1_l_right 400) (fun x => setT 3 (.d x)) (ret true) (ce2_l_right 400) ⟨[.v (.d a), h, .v (.d (.list (made a))), .un, .un], []⟩ = .ok (.l (ks.map T.d)) ⟨[.v (.d a), h, .v (.d (.list (made a))), .un, .un], []⟩ := by kernel_rfl
theorem ev_overs (a : D) (h : Sl) : cpr [3] (it5_l_right 400) (fun x => setT 3 (.d x)) (ret true) (ce6_l_right 400) ⟨[.v (.d a), h, .v (.d (.list (made a))), .un, .un], []⟩ = .ok (.l (hs.map T.d)) ⟨[.v (.d a), h, .v (.d (.list (made a))), .un, .un], []⟩ := by kernel_rfl
theorem ne_ks : cmpD .NotEq (.list ks) (.list ks) = some false := by kernel_rfl
theorem ne_hs : cmpD .NotEq (.list hs) (.list hs) = some false := by kernel_rfl
theorem inR_of {j : Int} (h : -(2 ^ 62) ≤ j ∧ j < 2 ^ 62) : inR j = true := inR_iff.mpr h
theorem rng28 : rngD (.int 28) = some ((List.range 28).map fun i => .int (0 + (i : Nat))) := by
  show (if inR 28 = true then _ else _) = _
  rw [if_pos (inR_of (by decide))]
  rfl
theorem ev_k28 (a h m : Sl) : cpr [4] (it3_l_right 400) (fun x => setT 4 (.d x)) (ret true) (ce4_l_right 400) ⟨[a, h, m, .un, .un], []⟩ = .ok (.l (ks.map T.d)) ⟨[a, h, m, .un, .un], []⟩ := by
  have e : it3_l_right 400 ⟨[a, h, m, .un, .un], []⟩ = .ok ((List.range 28).map fun i => .int (0 + (i : Nat))) ⟨[a, h, m, .un, .un], []⟩ := by
    unfold it3_l_right
    rw [bnd_ap, e_dat, e_ret]
    simp only [fz_d, e_some, rng28]
  unfold cpr
  rw [bnd_of e]
  kernel_rfl
theorem rep_of {ts : List T} {ds : List D} {n : Nat} (h : fzs ts = some ds) (hn : n < 100) (hd : ds.length < 100) : repT (.l ts) (.int (n : Nat)) = some (.l ((List.replicate n ds).flatten.map T.d)) := by
  unfold repT
  simp only [h]
  have e : (((n : Int)).toNat) = n := by omega
  have hm : ds.length * n ≤ sizeLine := Nat.le_trans (Nat.mul_le_mul (Nat.le_of_lt hd) (Nat.le_of_lt hn)) (by decide)
  rw [inR_of (by omega), e, decide_eq_true hm]
  rfl
theorem ev_a27 (a : D) : repT (.l [.d a]) (.int 27) = some (.l ((rep27 a).map T.d)) := rep_of (n := 27) (ds := [a]) rfl (by decide) (by show 1 < 100; decide)
theorem lb_right (a : D) (pa : Pn 4 a) (d : Sl) : bnd (setT 2 (.d (.list (made a)))) (fun _ => lb7_l_right 400) ⟨[.v (.d a), .v (.l (hs.map T.d)), d, .un, .un], []⟩ = .ok .nx ⟨[.v (.d a), .v (.l (hs.map T.d)), .v (.d (.list (made a))), .un, .un], []⟩ := by
  have e6 : (f_l_same 6).run [.list (rep27 a), .list (rep27 a)] [] = some (.val (.d (.bool true)) []) := by
    rw [same_eq]
    refine ev_same 6 _ (.list _ (fun x hx => ?_) (by unfold rep27; rw [List.length_replicate]; decide))
    unfold rep27 at hx
    rw [List.eq_of_mem_replicate hx]
    exact pa.up
  have s1 : (1 : Nat) ≤ sizeLine := by decide
  simp only [lb7_l_right, Nw.startS, Nw.startG, ↓Nw.e_sq, ↓Nw.e_sq0, ↓Nw.bnd_ap, ↓Nw.e_ret, ↓Nw.e_some, ↓Nw.e_dat, ↓Nw.e_evD0, ↓Nw.e_evD, ↓Nw.e_evT0, ↓Nw.e_evT, ↓Nw.e_tupM, ↓Nw.e_lstM, ↓Nw.e_lstD, ↓Nw.e_args0, ↓Nw.e_argsD, ↓Nw.e_argsC, Nw.rdS, Nw.pkS, Nw.root, Nw.vw, Nw.dts, Nw.cellOf, Nw.fz_d, Nw.fz_l', Nw.fzs_n, Nw.fzs_c, Nw.fzs_d, Nw.e_setT, Nw.e_add, Nw.e_sub, Nw.e_mul, Nw.e_div, Nw.e_mod, Nw.e_pow, Nw.e_and, Nw.e_app, Nw.e_adda, Nw.e_suba, Nw.e_mula, Nw.e_diva, Nw.e_lt, Nw.e_le, Nw.e_gt, Nw.e_ge, Nw.e_eq, Nw.e_ne, Nw.e_eqb, Nw.e_neb, Nw.e_neg, Nw.e_trb, Nw.e_bool, Nw.e_int, Nw.e_ixt, Nw.e_ixl, Nw.at_z, Nw.at_o, Nw.at_t, Nw.subM, Nw.pkM, Nw.plS, Nw.pl0, Nw.kI, Nw.kN, Nw.kS, Nw.getAt, Nw.getP, Nw.outS, List.length_cons, List.length_nil, List.cons_append, List.nil_append, List.append_nil, List.replicate_succ, List.replicate_zero, List.getElem?_cons_zero, List.getElem?_cons_succ, List.set_cons_succ, List.set_cons_zero, Nat.reduceSub, Nat.reduceAdd, Option.bind_some, Option.map_some, if_true, if_false, decide_true, decide_false, Bool.false_eq_true, Bool.not_true, Bool.not_false, if_pos, List.map_cons, List.map_nil, s1, ev_owns, ev_k28, ne_ks, ev_overs, dts_d, ne_hs, call_nil (ev_fields a), ev_a27, call_nil e6]
def h0 : List D := (List.replicate 10 [st ["value"]]).flatten
def h1 : List D := (List.replicate 5 [st ["key", "lookup"]]).flatten
def h2 : List D := (List.replicate 2 [st ["lookup"]]).flatten
def h3 : List D := (List.replicate 6 [st ["run"]]).flatten
def h4 : List D := (List.replicate 5 [st ["sums", "over"]]).flatten
theorem ev_right (a : D) (pa : Pn 4 a) : f_l_right.run [a] [] = some (.val (.d (.bool true)) []) := by
  have r0 : repT (.l [.l [.d (.str "value")]]) (.int 10) = some (.l (h0.map T.d)) := rep_of (n := 10) rfl (by decide) (by show 1 < 100; decide)
  have r1 : repT (.l [.l [.d (.str "key"), .d (.str "lookup")]]) (.int 5) = some (.l (h1.map T.d)) := rep_of (n := 5) rfl (by decide) (by show 1 < 100; decide)
  have r2 : repT (.l [.l [.d (.str "lookup")]]) (.int 2) = some (.l (h2.map T.d)) := rep_of (n := 2) rfl (by decide) (by show 1 < 100; decide)
  have r3 : repT (.l [.l [.d (.str "run")]]) (.int 6) = some (.l (h3.map T.d)) := rep_of (n := 6) rfl (by decide) (by show 1 < 100; decide)
  have r4 : repT (.l [.l [.d (.str "sums"), .d (.str "over")]]) (.int 5) = some (.l (h4.map T.d)) := rep_of (n := 5) rfl (by decide) (by show 1 < 100; decide)
  have s1 : (1 : Nat) ≤ sizeLine := by decide
  have s2 : (2 : Nat) ≤ sizeLine := by decide
  have eh : (((h0 ++ h1) ++ h2) ++ h3) ++ h4 = hs := by kernel_rfl
  have l1 : h0.length + h1.length ≤ sizeLine := by decide
  have l2 : (h0 ++ h1).length + h2.length ≤ sizeLine := by decide
  have l3 : ((h0 ++ h1) ++ h2).length + h3.length ≤ sizeLine := by decide
  have l4 : (((h0 ++ h1) ++ h2) ++ h3).length + h4.length ≤ sizeLine := by decide
  have f1 : forL (fun x => setT 2 (.d x)) (lb7_l_right 400) [.list (made a), .list (made a)] ⟨[.v (.d a), .v (.l (hs.map T.d)), .un, .un, .un], []⟩ = .ok .nx ⟨[.v (.d a), .v (.l (hs.map T.d)), .v (.d (.list (made a))), .un, .un], []⟩ := by
    exact (for_step (asg := fun x => setT 2 (.d x)) (d := .list (made a)) (lb_right a pa .un)).trans (for_step (asg := fun x => setT 2 (.d x)) (d := .list (made a)) (lb_right a pa (.v (.d (.list (made a))))))
  refine run_mkF (s' := ⟨[.v (.d a), .v (.l (hs.map T.d)), .v (.d (.list (made a))), .un, .un], []⟩) ?_ rfl rfl
  simp only [cb_l_right, Nw.startS, Nw.startG, ↓Nw.e_sq, ↓Nw.e_sq0, ↓Nw.bnd_ap, ↓Nw.e_ret, ↓Nw.e_some, ↓Nw.e_dat, ↓Nw.e_evD0, ↓Nw.e_evD, ↓Nw.e_evT0, ↓Nw.e_evT, ↓Nw.e_tupM, ↓Nw.e_lstM, ↓Nw.e_lstD, ↓Nw.e_args0, ↓Nw.e_argsD, ↓Nw.e_argsC, Nw.rdS, Nw.pkS, Nw.root, Nw.vw, Nw.dts, Nw.cellOf, Nw.fz_d, Nw.fz_l', Nw.fzs_n, Nw.fzs_c, Nw.fzs_d, Nw.e_setT, Nw.e_add, Nw.e_sub, Nw.e_mul, Nw.e_div, Nw.e_mod, Nw.e_pow, Nw.e_and, Nw.e_app, Nw.e_adda, Nw.e_suba, Nw.e_mula, Nw.e_diva, Nw.e_lt, Nw.e_le, Nw.e_gt, Nw.e_ge, Nw.e_eq, Nw.e_ne, Nw.e_eqb, Nw.e_neb, Nw.e_neg, Nw.e_trb, Nw.e_bool, Nw.e_int, Nw.e_ixt, Nw.e_ixl, Nw.at_z, Nw.at_o, Nw.at_t, Nw.subM, Nw.pkM, Nw.plS, Nw.pl0, Nw.kI, Nw.kN, Nw.kS, Nw.getAt, Nw.getP, Nw.outS, List.length_cons, List.length_nil, List.cons_append, List.nil_append, List.append_nil, List.replicate_succ, List.replicate_zero, List.getElem?_cons_zero, List.getElem?_cons_succ, List.set_cons_succ, List.set_cons_zero, Nat.reduceSub, Nat.reduceAdd, Option.bind_some, Option.map_some, if_true, if_false, decide_true, decide_false, Bool.false_eq_true, Bool.not_true, Bool.not_false, if_pos, List.map_cons, List.map_nil, s1, s2, r0, r1, r2, r3, r4, l1, l2, l3, l4, eh, call_nil (ev_made a), call_nil (ev_called a), seqD, f1]
end K01
end

set_option Elab.async false
set_option linter.all false
set_option maxRecDepth 100000
set_option maxHeartbeats 4000000
noncomputable section
namespace K01
open PySem L2 PySem.Spec Nw
theorem call_b0 {fn : Fn} {ds : List D} {c c' t : T} (hn : noP c = true) (h : fn.run ds [c] = some (.val t [c'])) (g : List Sl) : callFn fn (ds, [], [.bor 0]) ⟨g, [some c]⟩ = .ok t ⟨g, [some c']⟩ := call_bor (b := [some c]) rfl hn h
theorem call_o3 {fn : Fn} {ds : List D} {a b c e f : Sl} {x x' t : T} {y : List (Option T)} (hn : noP x = true) (h : fn.run ds [x] = some (.val t [x'])) : callFn fn (ds, [], [.own 3]) ⟨[a, b, c, .v x, e, f], y⟩ = .ok t ⟨[a, b, c, .v x', e, f], y⟩ := call_own (g := [a, b, c, .v x, e, f]) rfl hn h
theorem isE : ([] : List T).isEmpty = true := rfl
def pool (n : Nat) : List D := [.int (n : Nat), .str "ann", .tuple [.int 1, .int 2], .tuple [.str "late", .tuple [.int 1, .int 2], .tuple [.str "name", .str "a"]], .list [.str "get", .str "put"], .none, .str "", .tuple [], .str "1/2", .int (-3)]
theorem pn2 {n : Nat} {a b : D} (h : Pn n a) (k : Pn n b) : Pn (n + 1) (.tuple [a, b]) := .tuple _ (fun x hx => by
  rcases List.mem_cons.mp hx with rfl | hx
  · exact h
  · cases List.mem_singleton.mp hx; exact k) (by show 2 ≤ sizeLine; decide)
theorem pool_ok (n j : Nat) (hj : j < (pool n).length) : Pn 4 ((pool n)[j]) := by
  match j, hj with
  | 0, _ => exact .int _
  | 1, _ => exact .str _
  | 2, _ => exact pn2 (.int _) (.int _)
  | 3, _ => exact .tuple _ (fun x hx => by
      rcases List.mem_cons.mp hx with rfl | hx
      · exact .str _
      · rcases List.mem_cons.mp hx with rfl | hx
        · exact pn2 (.int _) (.int _)
        · cases List.mem_singleton.mp hx; exact pn2 (.str _) (.str _)) (by decide)
  | 4, _ => exact .list _ (fun x hx => by
      rcases List.mem_cons.mp hx with rfl | hx
      · exact .str _
      · cases List.mem_singleton.mp hx; exact .str _) (by decide)
  | 5, _ => exact .non
  | 6, _ => exact .str _
  | 7, _ => exact .tuple _ (fun x hx => by cases hx) (by decide)
  | 8, _ => exact .str _
  | 9, _ => exact .int _
  | j + 10, h => exact absurd h (by show ¬ (j + 10 < 10); omega)
theorem ev_odd {m : Nat} {b : Bx} (hb : BxOk m b) (hm : m < 2 ^ 19) : ∃ (d : D) (b' : Bx), Pn 4 d ∧ BxOk (m + 2) b' ∧ f_l_odd.run [] [bx b] = some (.val (.d d) [bx b']) := by
  obtain ⟨j1, b1, h1, ok1, e1⟩ := ev_take hb (by omega) (n := 10 ^ (6 : Int).toNat) (by decide) (by decide)
  obtain ⟨j2, b2, h2, ok2, e2⟩ := ev_take ok1 (by omega) (n := 10) (by decide) (by decide)
  have hj : j2 < (pool j1).length := by show j2 < 10; omega
  rw [← take_eq] at e1 e2
  have q : atI (pool j1) (j2 : Int) = some ((pool j1)[j2]) := at_nat _ _ hj
  refine ⟨(pool j1)[j2], b2, pool_ok j1 j2 hj, ok2, ?_⟩
  have p1 : CPow 10 6 := ⟨by decide, by decide, by decide⟩
  have s0 : (0 : Nat) ≤ sizeLine := by decide
  have s2 : (2 : Nat) ≤ sizeLine := by decide
  have s3 : (3 : Nat) ≤ sizeLine := by decide
  have s8 : (8 : Nat) ≤ sizeLine := by decide
  have s10 : (8 + 2 : Nat) ≤ sizeLine := by decide
  have n1 := noP_bx b
  have n2 := noP_bx b1
  unfold pool at q
  refine run_mkF (s' := ⟨[.bor 0, .v (.l [.d (.int (j1 : Nat)), .d (.str "ann"), .d (.tuple [.int 1, .int 2]), .d (.tuple [.str "late", .tuple [.int 1, .int 2], .tuple [.str "name", .str "a"]]), .d (.list [.str "get", .str "put"]), .d .none, .d (.str ""), .d (.tuple [])])], [some (bx b2)]⟩) ?_ rfl rfl
  simp only [cb_l_odd, Nw.startS, Nw.startG, ↓Nw.e_sq, ↓Nw.e_sq0, ↓Nw.bnd_ap, ↓Nw.e_ret, ↓Nw.e_some, ↓Nw.e_dat, ↓Nw.e_evD0, ↓Nw.e_evD, ↓Nw.e_evT0, ↓Nw.e_evT, ↓Nw.e_tupM, ↓Nw.e_lstM, ↓Nw.e_lstD, ↓Nw.e_args0, ↓Nw.e_argsD, ↓Nw.e_argsC, Nw.rdS, Nw.pkS, Nw.root, Nw.vw, Nw.dts, Nw.cellOf, Nw.fz_d, Nw.fz_l', Nw.fzs_n, Nw.fzs_c, Nw.fzs_d, Nw.e_setT, Nw.e_add, Nw.e_sub, Nw.e_mul, Nw.e_div, Nw.e_mod, Nw.e_pow, Nw.e_and, Nw.e_app, Nw.e_adda, Nw.e_suba, Nw.e_mula, Nw.e_diva, Nw.e_lt, Nw.e_le, Nw.e_gt, Nw.e_ge, Nw.e_eq, Nw.e_ne, Nw.e_eqb, Nw.e_neb, Nw.e_neg, Nw.e_trb, Nw.e_bool, Nw.e_int, Nw.e_ixt, Nw.e_ixl, Nw.at_z, Nw.at_o, Nw.at_t, Nw.subM, Nw.pkM, Nw.plS, Nw.pl0, Nw.kI, Nw.kN, Nw.kS, Nw.getAt, Nw.getP, Nw.outS, List.length_cons, List.length_nil, List.cons_append, List.nil_append, List.append_nil, List.replicate_succ, List.replicate_zero, List.getElem?_cons_zero, List.getElem?_cons_succ, List.set_cons_succ, List.set_cons_zero, Nat.reduceSub, Nat.reduceAdd, Option.bind_some, Option.map_some, if_true, if_false, decide_true, decide_false, Bool.false_eq_true, Bool.not_true, Bool.not_false, if_pos, List.map_cons, List.map_nil, isE, p1, call_b0 n1 e1, call_b0 n2 e2, s0, s2, s3, s8, s10, q]
  rfl
theorem rng_nat (k : Nat) (h : k < 2 ^ 62) : rngD (.int (k : Nat)) = some ((List.range k).map fun i => .int (0 + (i : Nat))) := by
  show (if inR (k : Int) = true then _ else _) = _
  rw [if_pos (inR_of (by omega))]
  have e : ((k : Int)).toNat = k := by omega
  rw [e]
def r0 (i : Nat) : D := .int (0 + (i : Nat))
theorem ev_law (xs : List Int) : f_law.run [.list (xs.map .int)] [] = some (.val (.d (.bool true)) []) := by
  obtain ⟨cs, hl, e1⟩ := ev_folded xs (M := 2) (by decide) (by decide)
  rw [← folded_eq, ← tint] at e1
  have e1' : f_l_folded.run [.list (xs.map .int), .int 2] [] = some (.val (.l ((cs.map PyData.int).map T.d)) []) := e1
  have ln : (cs.map PyData.int).length = cs.length := List.length_map _
  have e7 : rngD (.int (1 + ((cs.map PyData.int).length : Nat))) = some ((List.range (1 + cs.length)).map r0) := by
    have := rng_nat (1 + cs.length) (by omega)
    rw [Int.natCast_add] at this
    rw [ln]
    exact this
  obtain ⟨s', e, sl, a1, d, d2, hs, h1⟩ := for_inv (asg := fun x => setT 2 (.d x)) (body := lb3_law 400) (fun i s => ∃ a1 d d2 d3 : Sl, s = ⟨[.v (.d (.list (xs.map .int))), a1, d, d2, .un, .un], []⟩ ∧ ((a1 = .v (.l ((cs.map PyData.int).map T.d)) ∧ d3 = .un) ∨ (a1 = .v (.d (.list (cs.map .int))) ∧ d3 = .un)))
    ((List.range (1 + cs.length)).map r0) 0 ⟨[.v (.d (.list (xs.map .int))), .v (.l ((cs.map PyData.int).map T.d)), .un, .un, .un, .un], []⟩ ⟨_, _, _, .un, rfl, .inl ⟨rfl, rfl⟩⟩ (by
      intro i hi s ⟨a1, d, d2, d3, hs, ha⟩
      subst hs
      rw [List.length_map, List.length_range] at hi
      have er : ((List.range (1 + cs.length)).map r0)[i]'(by rw [List.length_map, List.length_range]; exact hi) = .int (i : Nat) := by
        rw [List.getElem_map, List.getElem_range]
        unfold r0
        rw [Int.zero_add]
      rw [er]
      obtain ⟨b, hb, e2⟩ := ev_dip (cs := cs) (k := i) (by omega)
      rw [← dip_eq] at e2
      have hit : it1_law 400 ⟨[.v (.d (.list (xs.map .int))), .v (.d (.list (cs.map .int))), .v (.d (.int (i : Nat))), .v (bx b), .un, .un], []⟩ = .ok ((List.range 8).map r0) ⟨[.v (.d (.list (xs.map .int))), .v (.d (.list (cs.map .int))), .v (.d (.int (i : Nat))), .v (bx b), .un, .un], []⟩ := by
        have : rngD (.int 8) = some ((List.range 8).map r0) := rng_nat 8 (by decide)
        simp only [it1_law, Nw.startS, Nw.startG, ↓Nw.e_sq, ↓Nw.e_sq0, ↓Nw.bnd_ap, ↓Nw.e_ret, ↓Nw.e_some, ↓Nw.e_dat, ↓Nw.e_evD0, ↓Nw.e_evD, ↓Nw.e_evT0, ↓Nw.e_evT, ↓Nw.e_tupM, ↓Nw.e_lstM, ↓Nw.e_lstD, ↓Nw.e_args0, ↓Nw.e_argsD, ↓Nw.e_argsC, Nw.rdS, Nw.pkS, Nw.root, Nw.vw, Nw.dts, Nw.cellOf, Nw.fz_d, Nw.fz_l', Nw.fzs_n, Nw.fzs_c, Nw.fzs_d, Nw.e_setT, Nw.e_add, Nw.e_sub, Nw.e_mul, Nw.e_div, Nw.e_mod, Nw.e_pow, Nw.e_and, Nw.e_app, Nw.e_adda, Nw.e_suba, Nw.e_mula, Nw.e_diva, Nw.e_lt, Nw.e_le, Nw.e_gt, Nw.e_ge, Nw.e_eq, Nw.e_ne, Nw.e_eqb, Nw.e_neb, Nw.e_neg, Nw.e_trb, Nw.e_bool, Nw.e_int, Nw.e_ixt, Nw.e_ixl, Nw.at_z, Nw.at_o, Nw.at_t, Nw.subM, Nw.pkM, Nw.plS, Nw.pl0, Nw.kI, Nw.kN, Nw.kS, Nw.getAt, Nw.getP, Nw.outS, List.length_cons, List.length_nil, List.cons_append, List.nil_append, List.append_nil, List.replicate_succ, List.replicate_zero, List.getElem?_cons_zero, List.getElem?_cons_succ, List.set_cons_succ, List.set_cons_zero, Nat.reduceSub, Nat.reduceAdd, Option.bind_some, Option.map_some, if_true, if_false, decide_true, decide_false, Bool.false_eq_true, Bool.not_true, Bool.not_false, if_pos, List.map_cons, List.map_nil, this]
      obtain ⟨out, s', e, hs, hao⟩ := all_comp (own := [5]) (it := it1_law 400) (asg := fun x => setT 5 (.d x)) (elt := ce2_law 400) (fun n s => ∃ b, BxOk (2 * n) b ∧ s = ⟨[.v (.d (.list (xs.map .int))), .v (.d (.list (cs.map .int))), .v (.d (.int (i : Nat))), .v (bx b), .un, .un], []⟩) hit rfl ⟨b, hb, rfl⟩ (by decide) (by
        intro n hn s ⟨b, hb, hs⟩
        subst hs
        have hn' : n < 8 := by rw [List.length_map, List.length_range] at hn; exact hn
        obtain ⟨dd, b1, pd, hb1, e1⟩ := ev_odd hb (by omega)
        refine ⟨⟨[.v (.d (.list (xs.map .int))), .v (.d (.list (cs.map .int))), .v (.d (.int (i : Nat))), .v (bx b1), .un, .v (.d (((List.range 8).map r0)[n]))], []⟩, ?_, b1, hb1.mono (by omega), rfl⟩
        have n1 := noP_bx b
        simp only [ce2_law, Nw.startS, Nw.startG, ↓Nw.e_sq, ↓Nw.e_sq0, ↓Nw.bnd_ap, ↓Nw.e_ret, ↓Nw.e_some, ↓Nw.e_dat, ↓Nw.e_evD0, ↓Nw.e_evD, ↓Nw.e_evT0, ↓Nw.e_evT, ↓Nw.e_tupM, ↓Nw.e_lstM, ↓Nw.e_lstD, ↓Nw.e_args0, ↓Nw.e_argsD, ↓Nw.e_argsC, Nw.rdS, Nw.pkS, Nw.root, Nw.vw, Nw.dts, Nw.cellOf, Nw.fz_d, Nw.fz_l', Nw.fzs_n, Nw.fzs_c, Nw.fzs_d, Nw.e_setT, Nw.e_add, Nw.e_sub, Nw.e_mul, Nw.e_div, Nw.e_mod, Nw.e_pow, Nw.e_and, Nw.e_app, Nw.e_adda, Nw.e_suba, Nw.e_mula, Nw.e_diva, Nw.e_lt, Nw.e_le, Nw.e_gt, Nw.e_ge, Nw.e_eq, Nw.e_ne, Nw.e_eqb, Nw.e_neb, Nw.e_neg, Nw.e_trb, Nw.e_bool, Nw.e_int, Nw.e_ixt, Nw.e_ixl, Nw.at_z, Nw.at_o, Nw.at_t, Nw.subM, Nw.pkM, Nw.plS, Nw.pl0, Nw.kI, Nw.kN, Nw.kS, Nw.getAt, Nw.getP, Nw.outS, List.length_cons, List.length_nil, List.cons_append, List.nil_append, List.append_nil, List.replicate_succ, List.replicate_zero, List.getElem?_cons_zero, List.getElem?_cons_succ, List.set_cons_succ, List.set_cons_zero, Nat.reduceSub, Nat.reduceAdd, Option.bind_some, Option.map_some, if_true, if_false, decide_true, decide_false, Bool.false_eq_true, Bool.not_true, Bool.not_false, if_pos, List.map_cons, List.map_nil, isE, call_o3 n1 e1, call_nil (ev_right dd pd)]
        rfl)
      obtain ⟨b', hb', hs⟩ := hs
      subst hs
      have ek : backG [Sl.v (.d (.list (xs.map .int))), .v (.d (.list (cs.map .int))), .v (.d (.int (i : Nat))), .v (bx b), .un, .un] [Sl.v (.d (.list (xs.map .int))), .v (.d (.list (cs.map .int))), .v (.d (.int (i : Nat))), .v (bx b'), .un, .un] [5] = [Sl.v (.d (.list (xs.map .int))), .v (.d (.list (cs.map .int))), .v (.d (.int (i : Nat))), .v (bx b'), .un, .un] := rfl
      simp only [ek] at e
      refine ⟨⟨[.v (.d (.list (xs.map .int))), .v (.d (.list (cs.map .int))), .v (.d (.int (i : Nat))), .v (bx b'), .un, .un], []⟩, ?_, _, _, _, .un, rfl, .inr ⟨rfl, rfl⟩⟩
      rcases ha with ⟨rfl, _⟩ | ⟨rfl, _⟩ <;> simp only [lb3_law, Nw.startS, Nw.startG, ↓Nw.e_sq, ↓Nw.e_sq0, ↓Nw.bnd_ap, ↓Nw.e_ret, ↓Nw.e_some, ↓Nw.e_dat, ↓Nw.e_evD0, ↓Nw.e_evD, ↓Nw.e_evT0, ↓Nw.e_evT, ↓Nw.e_tupM, ↓Nw.e_lstM, ↓Nw.e_lstD, ↓Nw.e_args0, ↓Nw.e_argsD, ↓Nw.e_argsC, Nw.rdS, Nw.pkS, Nw.root, Nw.vw, Nw.dts, Nw.cellOf, Nw.fz_d, Nw.fz_l', Nw.fzs_n, Nw.fzs_c, Nw.fzs_d, Nw.e_setT, Nw.e_add, Nw.e_sub, Nw.e_mul, Nw.e_div, Nw.e_mod, Nw.e_pow, Nw.e_and, Nw.e_app, Nw.e_adda, Nw.e_suba, Nw.e_mula, Nw.e_diva, Nw.e_lt, Nw.e_le, Nw.e_gt, Nw.e_ge, Nw.e_eq, Nw.e_ne, Nw.e_eqb, Nw.e_neb, Nw.e_neg, Nw.e_trb, Nw.e_bool, Nw.e_int, Nw.e_ixt, Nw.e_ixl, Nw.at_z, Nw.at_o, Nw.at_t, Nw.subM, Nw.pkM, Nw.plS, Nw.pl0, Nw.kI, Nw.kN, Nw.kS, Nw.getAt, Nw.getP, Nw.outS, List.length_cons, List.length_nil, List.cons_append, List.nil_append, List.append_nil, List.replicate_succ, List.replicate_zero, List.getElem?_cons_zero, List.getElem?_cons_succ, List.set_cons_succ, List.set_cons_zero, Nat.reduceSub, Nat.reduceAdd, Option.bind_some, Option.map_some, if_true, if_false, decide_true, decide_false, Bool.false_eq_true, Bool.not_true, Bool.not_false, if_pos, List.map_cons, List.map_nil, call_nil e2, e, b_all, hao])
  subst hs
  have s7 : (7 : Nat) ≤ sizeLine := by decide
  have ekw : bltD "tuple" [.list (kw.map PyData.str)] = some (.d gl_KEYWORDS) := by kernel_rfl
  have e6 : (f_l_same 6).run [.list [gl_KEYWORDS, .int 8, .int 120, .int 24, .int 8, .int 6, .int 300], .list [gl_KEYWORDS, .int 8, .int 120, .int 24, .int 8, .int 6, .int 300]] [] = some (.val (.d (.bool true)) []) := by
    rw [same_eq]
    refine ev_same 6 _ (.list _ (fun x hx => ?_) (by decide))
    rcases List.mem_cons.mp hx with rfl | hx
    · refine .tuple _ (fun x hx => ?_) (by decide)
      obtain ⟨y, _, rfl⟩ := List.mem_map.mp (show x ∈ kw.map PyData.str from hx)
      exact .str y
    · simp only [List.mem_cons, List.not_mem_nil, or_false] at hx
      rcases hx with rfl | rfl | rfl | rfl | rfl | rfl <;> exact .int _
  refine run_mkF (s' := ⟨[.v (.d (.list (xs.map .int))), sl, a1, d, .v (.d (.list [gl_KEYWORDS, .int 8, .int 120, .int 24, .int 8, .int 6, .int 300])), .un], []⟩) ?_ rfl rfl
  have gs : gl_SIZE = .int 8 ∧ gl_MOST_BOXES = .int 120 ∧ gl_WIDE = .int 24 ∧ gl_FIGURES = .int 8 ∧ gl_FINE = .int 6 ∧ gl_MOST_WAYS = .int 300 := ⟨rfl, rfl, rfl, rfl, rfl, rfl⟩
  obtain ⟨g1, g2, g3, g4, g5, g6⟩ := gs
  simp only [cb_law, Nw.startS, Nw.startG, ↓Nw.e_sq, ↓Nw.e_sq0, ↓Nw.bnd_ap, ↓Nw.e_ret, ↓Nw.e_some, ↓Nw.e_dat, ↓Nw.e_evD0, ↓Nw.e_evD, ↓Nw.e_evT0, ↓Nw.e_evT, ↓Nw.e_tupM, ↓Nw.e_lstM, ↓Nw.e_lstD, ↓Nw.e_args0, ↓Nw.e_argsD, ↓Nw.e_argsC, Nw.rdS, Nw.pkS, Nw.root, Nw.vw, Nw.dts, Nw.cellOf, Nw.fz_d, Nw.fz_l', Nw.fzs_n, Nw.fzs_c, Nw.fzs_d, Nw.e_setT, Nw.e_add, Nw.e_sub, Nw.e_mul, Nw.e_div, Nw.e_mod, Nw.e_pow, Nw.e_and, Nw.e_app, Nw.e_adda, Nw.e_suba, Nw.e_mula, Nw.e_diva, Nw.e_lt, Nw.e_le, Nw.e_gt, Nw.e_ge, Nw.e_eq, Nw.e_ne, Nw.e_eqb, Nw.e_neb, Nw.e_neg, Nw.e_trb, Nw.e_bool, Nw.e_int, Nw.e_ixt, Nw.e_ixl, Nw.at_z, Nw.at_o, Nw.at_t, Nw.subM, Nw.pkM, Nw.plS, Nw.pl0, Nw.kI, Nw.kN, Nw.kS, Nw.getAt, Nw.getP, Nw.outS, List.length_cons, List.length_nil, List.cons_append, List.nil_append, List.append_nil, List.replicate_succ, List.replicate_zero, List.getElem?_cons_zero, List.getElem?_cons_succ, List.set_cons_succ, List.set_cons_zero, Nat.reduceSub, Nat.reduceAdd, Option.bind_some, Option.map_some, if_true, if_false, decide_true, decide_false, Bool.false_eq_true, Bool.not_true, Bool.not_false, if_pos, List.map_cons, List.map_nil, call_nil e1', lenD, dts_d, e7, e, s7, g1, g2, g3, g4, g5, g6, call_nil ev_keywords, ekw, call_nil e6]
end K01
end

set_option Elab.async false
set_option linter.all false
set_option maxRecDepth 100000
set_option maxHeartbeats 4000000
noncomputable section
namespace K01
open PySem L2 PySem.Spec Nw
theorem up_bVal : UpOk bVal ["ValueError"] ex_bt := up_cons (T := "ValueError") (by kernel_rfl) (by decide) (by decide +kernel) (by decide +kernel) (up_cons (T := "KeyError") (by kernel_rfl) (by decide) (by decide +kernel) (by decide +kernel) (up_cons (T := "LookupError") (by kernel_rfl) (by decide) (by decide +kernel) (by decide +kernel) (up_cons (T := "IndexError") (by kernel_rfl) (by decide) (by decide +kernel) (by decide +kernel) (up_cons (T := "RuntimeError") (by kernel_rfl) (by decide) (by decide +kernel) (by decide +kernel) (up_cons (T := "ArithmeticError") (by kernel_rfl) (by decide) (by decide +kernel) (by decide +kernel) (up_cons (T := "OverflowError") (by kernel_rfl) (by decide) (by decide +kernel) (by decide +kernel) (up_cons (T := "TypeError") (by kernel_rfl) (by decide) (by decide +kernel) (by decide +kernel) (up_nil))))))))
theorem up_bKey : UpOk bKey ["KeyError", "LookupError"] ex_bt := up_cons (T := "ValueError") (by kernel_rfl) (by decide) (by decide +kernel) (by decide +kernel) (up_cons (T := "KeyError") (by kernel_rfl) (by decide) (by decide +kernel) (by decide +kernel) (up_cons (T := "LookupError") (by kernel_rfl) (by decide) (by decide +kernel) (by decide +kernel) (up_cons (T := "IndexError") (by kernel_rfl) (by decide) (by decide +kernel) (by decide +kernel) (up_cons (T := "RuntimeError") (by kernel_rfl) (by decide) (by decide +kernel) (by decide +kernel) (up_cons (T := "ArithmeticError") (by kernel_rfl) (by decide) (by decide +kernel) (by decide +kernel) (up_cons (T := "OverflowError") (by kernel_rfl) (by decide) (by decide +kernel) (by decide +kernel) (up_cons (T := "TypeError") (by kernel_rfl) (by decide) (by decide +kernel) (by decide +kernel) (up_nil))))))))
theorem up_bLok : UpOk bLok ["LookupError"] ex_bt := up_cons (T := "ValueError") (by kernel_rfl) (by decide) (by decide +kernel) (by decide +kernel) (up_cons (T := "KeyError") (by kernel_rfl) (by decide) (by decide +kernel) (by decide +kernel) (up_cons (T := "LookupError") (by kernel_rfl) (by decide) (by decide +kernel) (by decide +kernel) (up_cons (T := "IndexError") (by kernel_rfl) (by decide) (by decide +kernel) (by decide +kernel) (up_cons (T := "RuntimeError") (by kernel_rfl) (by decide) (by decide +kernel) (by decide +kernel) (up_cons (T := "ArithmeticError") (by kernel_rfl) (by decide) (by decide +kernel) (by decide +kernel) (up_cons (T := "OverflowError") (by kernel_rfl) (by decide) (by decide +kernel) (by decide +kernel) (up_cons (T := "TypeError") (by kernel_rfl) (by decide) (by decide +kernel) (by decide +kernel) (up_nil))))))))
theorem up_bRun : UpOk bRun ["RuntimeError"] ex_bt := up_cons (T := "ValueError") (by kernel_rfl) (by decide) (by decide +kernel) (by decide +kernel) (up_cons (T := "KeyError") (by kernel_rfl) (by decide) (by decide +kernel) (by decide +kernel) (up_cons (T := "LookupError") (by kernel_rfl) (by decide) (by decide +kernel) (by decide +kernel) (up_cons (T := "IndexError") (by kernel_rfl) (by decide) (by decide +kernel) (by decide +kernel) (up_cons (T := "RuntimeError") (by kernel_rfl) (by decide) (by decide +kernel) (by decide +kernel) (up_cons (T := "ArithmeticError") (by kernel_rfl) (by decide) (by decide +kernel) (by decide +kernel) (up_cons (T := "OverflowError") (by kernel_rfl) (by decide) (by decide +kernel) (by decide +kernel) (up_cons (T := "TypeError") (by kernel_rfl) (by decide) (by decide +kernel) (by decide +kernel) (up_nil))))))))
theorem up_bOvf : UpOk bOvf ["OverflowError", "ArithmeticError"] ex_bt := up_cons (T := "ValueError") (by kernel_rfl) (by decide) (by decide +kernel) (by decide +kernel) (up_cons (T := "KeyError") (by kernel_rfl) (by decide) (by decide +kernel) (by decide +kernel) (up_cons (T := "LookupError") (by kernel_rfl) (by decide) (by decide +kernel) (by decide +kernel) (up_cons (T := "IndexError") (by kernel_rfl) (by decide) (by decide +kernel) (by decide +kernel) (up_cons (T := "RuntimeError") (by kernel_rfl) (by decide) (by decide +kernel) (by decide +kernel) (up_cons (T := "ArithmeticError") (by kernel_rfl) (by decide) (by decide +kernel) (by decide +kernel) (up_cons (T := "OverflowError") (by kernel_rfl) (by decide) (by decide +kernel) (by decide +kernel) (up_cons (T := "TypeError") (by kernel_rfl) (by decide) (by decide +kernel) (by decide +kernel) (up_nil))))))))
section
variable {P : Program} {w : World} {K : PySem.W.Frag} {mg : Str → Option Value} {base h : Heap} (X : K.In h) (G : h.Ns mainGlobals mg)
include X G
theorem ok_l_dip (H : Has K "_law_dip" (topS 37) []) (z_len : mg "len" = none) (z_abs : mg "abs" = none) (z_int : mg "int" = none)   (E : ∀ k, 2 ≤ k → ExOk P w K mg base k ex_t) : Ok P w K mg base 3 "_law_dip" 2 f_l_dip :=
  ok_of (k := 2) (sig := [false, false]) (cb := cb_l_dip) (wf := 400) X G H sc_l_dip (bl := bl_l_dip) (gt := gt_l_dip) (allB1 z_len (allB1 z_abs (allB1 z_int (trivial)))) (show AllGl K mg gt_l_dip from trivial) (show AllAt _ _ _ _ _ _ tb_l_dip from trivial) (E _ (by decide)) rfl (by decide) bd_l_dip (fun _ _ _ _ _ _ us hl => match us, hl with | [_, _], _ => rfl)
theorem ok_l_take (H : Has K "_law_take" (topS 38) [])    (E : ∀ k, 2 ≤ k → ExOk P w K mg base k ex_t) : Ok P w K mg base 3 "_law_take" 2 f_l_take :=
  ok_of (k := 2) (sig := [true, false]) (cb := cb_l_take) (wf := 400) X G H sc_l_take (bl := bl_l_take) (gt := gt_l_take) (trivial) (show AllGl K mg gt_l_take from trivial) (show AllAt _ _ _ _ _ _ tb_l_take from trivial) (E _ (by decide)) rfl (by decide) bd_l_take (fun _ _ _ _ _ _ us hl => match us, hl with | [_, _], _ => rfl)
theorem ok_l_folded (H : Has K "_law_folded" (topS 39) []) (z_list : mg "list" = none) (z_enumerate : mg "enumerate" = none)   (E : ∀ k, 2 ≤ k → ExOk P w K mg base k ex_t) : Ok P w K mg base 3 "_law_folded" 2 f_l_folded :=
  ok_of (k := 2) (sig := [false, false]) (cb := cb_l_folded) (wf := 400) X G H sc_l_folded (bl := bl_l_folded) (gt := gt_l_folded) (allB1 z_list (allB1 z_enumerate (trivial))) (show AllGl K mg gt_l_folded from trivial) (show AllAt _ _ _ _ _ _ tb_l_folded from trivial) (E _ (by decide)) rfl (by decide) bd_l_folded (fun _ _ _ _ _ _ us hl => match us, hl with | [_, _], _ => rfl)
theorem ok_l_same (H : Has K "_law_same" (topS 40) []) (z_isinstance : mg "isinstance" = none) (z_dict : mg "dict" = none) (z_sorted : mg "sorted" = none) (z_all : mg "all" = none) (z_tuple : mg "tuple" = none) (z_list : mg "list" = none) (z_len : mg "len" = none) (z_zip : mg "zip" = none) (z_bool : mg "bool" = none) (z_str : mg "str" = none) (z_int : mg "int" = none)   (E : ∀ k, 2 ≤ k → ExOk P w K mg base k ex_t) : ∀ n : Nat, Ok P w K mg base (n + 3) "_law_same" 2 (f_l_same n)
  | 0 => (ok_none (ps := P_l_same) X G H rfl (fun _ _ _ _ _ _ us hl => match us, hl with | [_, _], _ => rfl)).mono (by decide)
  | n + 1 => by
    have ih := ok_l_same H z_isinstance z_dict z_sorted z_all z_tuple z_list z_len z_zip z_bool z_str z_int E n
    have e : n + 1 + 3 = (n + 3) + 1 := by omega
    rw [e]
    exact ok_of (k := n + 3) (sig := [false, false]) (cb := cb_l_same (f_l_same n)) (wf := 400) X G H sc_l_same (bl := bl_l_same) (gt := gt_l_same) (allB1 z_isinstance (allB1 z_dict (allB1 z_sorted (allB1 z_all (allB1 z_tuple (allB1 z_list (allB1 z_len (allB1 z_zip (allB1 z_bool (allB1 z_str (allB1 z_int (trivial)))))))))))) (show AllGl K mg gt_l_same from trivial) (show AllAt _ _ _ _ _ _ (tb_l_same (f_l_same n)) from allAt1 (ih.at (Nat.le_refl _)) (trivial)) (E _ (Nat.le_trans (by decide) (Nat.le_add_left 3 n))) rfl (by decide) (bd_l_same (f_l_same n) (by cases n <;> rfl)) (fun _ _ _ _ _ _ us hl => match us, hl with | [_, _], _ => rfl)
theorem ok_l_keywords (H : Has K "_law_keywords" (topS 41) [])    (E : ∀ k, 2 ≤ k → ExOk P w K mg base k ex_t) : Ok P w K mg base 3 "_law_keywords" 0 f_l_keywords :=
  ok_of (k := 2) (sig := []) (cb := cb_l_keywords) (wf := 400) X G H sc_l_keywords (bl := bl_l_keywords) (gt := gt_l_keywords) (trivial) (show AllGl K mg gt_l_keywords from trivial) (show AllAt _ _ _ _ _ _ tb_l_keywords from trivial) (E _ (by decide)) rfl (by decide) bd_l_keywords (fun _ _ _ _ _ _ us hl => match us, hl with | [], _ => rfl)
theorem ok_l_own (H : Has K "_law_own" (topS 42) []) (z_isinstance : mg "isinstance" = none) (z_enumerate : mg "enumerate" = none)   (E : ∀ k, 2 ≤ k → ExOk P w K mg base k ex_t) : Ok P w K mg base 3 "_law_own" 1 f_l_own :=
  ok_of (k := 2) (sig := [false]) (cb := cb_l_own) (wf := 400) X G H sc_l_own (bl := bl_l_own) (gt := gt_l_own) (allB1 z_isinstance (allB1 z_enumerate (trivial))) (show AllGl K mg gt_l_own from trivial) (show AllAt _ _ _ _ _ _ tb_l_own from trivial) (E _ (by decide)) rfl (by decide) bd_l_own (fun _ _ _ _ _ _ us hl => match us, hl with | [_], _ => rfl)
theorem ok_l_over (H : Has K "_law_over" (topS 43) []) (z_isinstance : mg "isinstance" = none) (z_zip : mg "zip" = none)   (E : ∀ k, 2 ≤ k → ExOk P w K mg base k ex_t) : Ok P w K mg base 3 "_law_over" 1 f_l_over :=
  ok_of (k := 2) (sig := [false]) (cb := cb_l_over) (wf := 400) X G H sc_l_over (bl := bl_l_over) (gt := gt_l_over) (allB1 z_isinstance (allB1 z_zip (trivial))) (show AllGl K mg gt_l_over from trivial) (show AllAt _ _ _ _ _ _ tb_l_over from trivial) (E _ (by decide)) rfl (by decide) bd_l_over (fun _ _ _ _ _ _ us hl => match us, hl with | [_], _ => rfl)
theorem ok_l_made (H : Has K "_law_made" (topS 44) [])    (E : ∀ k, 2 ≤ k → ExOk P w K mg base k ex_t) : Ok P w K mg base 3 "_law_made" 1 f_l_made :=
  ok_of (k := 2) (sig := [false]) (cb := cb_l_made) (wf := 400) X G H sc_l_made (bl := bl_l_made) (gt := gt_l_made) (trivial) (show AllGl K mg gt_l_made from trivial) (show AllAt _ _ _ _ _ _ tb_l_made from trivial) (E _ (by decide)) rfl (by decide) bd_l_made (fun _ _ _ _ _ _ us hl => match us, hl with | [_], _ => rfl)
theorem ok_l_called (H : Has K "_law_called" (topS 45) [])    (E : ∀ k, 2 ≤ k → ExOk P w K mg base k ex_t) : Ok P w K mg base 3 "_law_called" 1 f_l_called :=
  ok_of (k := 2) (sig := [false]) (cb := cb_l_called) (wf := 400) X G H sc_l_called (bl := bl_l_called) (gt := gt_l_called) (trivial) (show AllGl K mg gt_l_called from trivial) (show AllAt _ _ _ _ _ _ tb_l_called from trivial) (E _ (by decide)) rfl (by decide) bd_l_called (fun _ _ _ _ _ _ us hl => match us, hl with | [_], _ => rfl)
theorem ok_l_fields (H : Has K "_law_fields" (topS 46) [])    (E : ∀ k, 2 ≤ k → ExOk P w K mg base k ex_t) : Ok P w K mg base 3 "_law_fields" 1 f_l_fields :=
  ok_of (k := 2) (sig := [false]) (cb := cb_l_fields) (wf := 400) X G H sc_l_fields (bl := bl_l_fields) (gt := gt_l_fields) (trivial) (show AllGl K mg gt_l_fields from trivial) (show AllAt _ _ _ _ _ _ tb_l_fields from trivial) (E _ (by decide)) rfl (by decide) bd_l_fields (fun _ _ _ _ _ _ us hl => match us, hl with | [_], _ => rfl)
theorem ok_l_odd (H : Has K "_law_odd" (topS 47) [])   (o_l_take : Ok P w K mg base 3 "_law_take" 2 f_l_take) (E : ∀ k, 2 ≤ k → ExOk P w K mg base k ex_t) : Ok P w K mg base 4 "_law_odd" 1 f_l_odd :=
  ok_of (k := 3) (sig := [true]) (cb := cb_l_odd) (wf := 400) X G H sc_l_odd (bl := bl_l_odd) (gt := gt_l_odd) (trivial) (show AllGl K mg gt_l_odd from trivial) (show AllAt _ _ _ _ _ _ tb_l_odd from allAt1 (o_l_take.at (by decide)) (trivial)) (E _ (by decide)) rfl (by decide) bd_l_odd (fun _ _ _ _ _ _ us hl => match us, hl with | [_], _ => rfl)
theorem ok_l_right (H : Has K "_law_right" (topS 48) []) (z_range : mg "range" = none)  (o_l_made : Ok P w K mg base 3 "_law_made" 1 f_l_made) (o_l_called : Ok P w K mg base 3 "_law_called" 1 f_l_called) (o_l_own : Ok P w K mg base 3 "_law_own" 1 f_l_own) (o_l_over : Ok P w K mg base 3 "_law_over" 1 f_l_over) (o_l_same : Ok P w K mg base 9 "_law_same" 2 (f_l_same 6)) (o_l_fields : Ok P w K mg base 3 "_law_fields" 1 f_l_fields) (E : ∀ k, 2 ≤ k → ExOk P w K mg base k ex_t) : Ok P w K mg base 10 "_law_right" 1 f_l_right :=
  ok_of (k := 9) (sig := [false]) (cb := cb_l_right) (wf := 400) X G H sc_l_right (bl := bl_l_right) (gt := gt_l_right) (allB1 z_range (trivial)) (show AllGl K mg gt_l_right from trivial) (show AllAt _ _ _ _ _ _ tb_l_right from allAt1 (o_l_made.at (by decide)) (allAt1 (o_l_called.at (by decide)) (allAt1 (o_l_own.at (by decide)) (allAt1 (o_l_over.at (by decide)) (allAt1 (o_l_same.at (by decide)) (allAt1 (o_l_fields.at (by decide)) (trivial))))))) (E _ (by decide)) rfl (by decide) bd_l_right (fun _ _ _ _ _ _ us hl => match us, hl with | [_], _ => rfl)
theorem ex_BadText (H : ExHas K "BadText" "BadText.__init__" (inS (topS 1)) 31 bVal) (m : mg "ValueError" = none) (v : PySem.W.findCls K (.type bVal.B) (.type "type") "__init__" = some (.val (.builtin bVal.ini))) (no : PySem.W.findIn K (.ref 31) "text" = some none) : ExC K 31 bVal ∧ ExM P w K mg base "BadText" 31 (some "text") ∧ mg "BadText" = some (.ref 31) :=
  ex_of X G ok_bVal H rfl m v no rfl ⟨rfl, rfl, rfl, by decide +kernel, rfl, by decide +kernel, by decide +kernel⟩ (by decide +kernel) (by decide +kernel) (by decide +kernel) (fun _ => ⟨_, rfl⟩) (by decide +kernel) (fun _ _ _ _ _ _ _ _ => rfl) (fun _ _ _ _ _ _ _ _ => rfl)
theorem ex_BadWord (H : ExHas K "BadWord" "BadWord.__init__" (inS (topS 2)) 51 bVal) (m : mg "ValueError" = none) (v : PySem.W.findCls K (.type bVal.B) (.type "type") "__init__" = some (.val (.builtin bVal.ini))) (no : PySem.W.findIn K (.ref 51) "at" = some none) : ExC K 51 bVal ∧ ExM P w K mg base "BadWord" 51 (some "at") ∧ mg "BadWord" = some (.ref 51) :=
  ex_of X G ok_bVal H rfl m v no rfl ⟨rfl, rfl, rfl, by decide +kernel, rfl, by decide +kernel, by decide +kernel⟩ (by decide +kernel) (by decide +kernel) (by decide +kernel) (fun _ => ⟨_, rfl⟩) (by decide +kernel) (fun _ _ _ _ _ _ _ _ => rfl) (fun _ _ _ _ _ _ _ _ => rfl)
theorem ex_BadRow (H : ExHas K "BadRow" "BadRow.__init__" (inS (topS 3)) 71 bVal) (m : mg "ValueError" = none) (v : PySem.W.findCls K (.type bVal.B) (.type "type") "__init__" = some (.val (.builtin bVal.ini))) (no : PySem.W.findIn K (.ref 71) "row" = some none) : ExC K 71 bVal ∧ ExM P w K mg base "BadRow" 71 (some "row") ∧ mg "BadRow" = some (.ref 71) :=
  ex_of X G ok_bVal H rfl m v no rfl ⟨rfl, rfl, rfl, by decide +kernel, rfl, by decide +kernel, by decide +kernel⟩ (by decide +kernel) (by decide +kernel) (by decide +kernel) (fun _ => ⟨_, rfl⟩) (by decide +kernel) (fun _ _ _ _ _ _ _ _ => rfl) (fun _ _ _ _ _ _ _ _ => rfl)
theorem ex_BadName (H : ExHas K "BadName" "BadName.__init__" (inS (topS 4)) 91 bVal) (m : mg "ValueError" = none) (v : PySem.W.findCls K (.type bVal.B) (.type "type") "__init__" = some (.val (.builtin bVal.ini))) (no : PySem.W.findIn K (.ref 91) "name" = some none) : ExC K 91 bVal ∧ ExM P w K mg base "BadName" 91 (some "name") ∧ mg "BadName" = some (.ref 91) :=
  ex_of X G ok_bVal H rfl m v no rfl ⟨rfl, rfl, rfl, by decide +kernel, rfl, by decide +kernel, by decide +kernel⟩ (by decide +kernel) (by decide +kernel) (by decide +kernel) (fun _ => ⟨_, rfl⟩) (by decide +kernel) (fun _ _ _ _ _ _ _ _ => rfl) (fun _ _ _ _ _ _ _ _ => rfl)
theorem ex_BadTerm (H : ExHas K "BadTerm" "BadTerm.__init__" (inS (topS 5)) 111 bVal) (m : mg "ValueError" = none) (v : PySem.W.findCls K (.type bVal.B) (.type "type") "__init__" = some (.val (.builtin bVal.ini))) (no : PySem.W.findIn K (.ref 111) "thing" = some none) : ExC K 111 bVal ∧ ExM P w K mg base "BadTerm" 111 (some "thing") ∧ mg "BadTerm" = some (.ref 111) :=
  ex_of X G ok_bVal H rfl m v no rfl ⟨rfl, rfl, rfl, by decide +kernel, rfl, by decide +kernel, by decide +kernel⟩ (by decide +kernel) (by decide +kernel) (by decide +kernel) (fun _ => ⟨_, rfl⟩) (by decide +kernel) (fun _ _ _ _ _ _ _ _ => rfl) (fun _ _ _ _ _ _ _ _ => rfl)
theorem ex_BadNumbers (H : ExHas K "BadNumbers" "BadNumbers.__init__" (inS (topS 6)) 131 bVal) (m : mg "ValueError" = none) (v : PySem.W.findCls K (.type bVal.B) (.type "type") "__init__" = some (.val (.builtin bVal.ini))) (no : PySem.W.findIn K (.ref 131) "thing" = some none) : ExC K 131 bVal ∧ ExM P w K mg base "BadNumbers" 131 (some "thing") ∧ mg "BadNumbers" = some (.ref 131) :=
  ex_of X G ok_bVal H rfl m v no rfl ⟨rfl, rfl, rfl, by decide +kernel, rfl, by decide +kernel, by decide +kernel⟩ (by decide +kernel) (by decide +kernel) (by decide +kernel) (fun _ => ⟨_, rfl⟩) (by decide +kernel) (fun _ _ _ _ _ _ _ _ => rfl) (fun _ _ _ _ _ _ _ _ => rfl)
theorem ex_BadDeed (H : ExHas K "BadDeed" "BadDeed.__init__" (inS (topS 7)) 151 bVal) (m : mg "ValueError" = none) (v : PySem.W.findCls K (.type bVal.B) (.type "type") "__init__" = some (.val (.builtin bVal.ini))) (no : PySem.W.findIn K (.ref 151) "number" = some none) : ExC K 151 bVal ∧ ExM P w K mg base "BadDeed" 151 (some "number") ∧ mg "BadDeed" = some (.ref 151) :=
  ex_of X G ok_bVal H rfl m v no rfl ⟨rfl, rfl, rfl, by decide +kernel, rfl, by decide +kernel, by decide +kernel⟩ (by decide +kernel) (by decide +kernel) (by decide +kernel) (fun _ => ⟨_, rfl⟩) (by decide +kernel) (fun _ _ _ _ _ _ _ _ => rfl) (fun _ _ _ _ _ _ _ _ => rfl)
theorem ex_Clash (H : ExHas K "Clash" "Clash.__init__" (inS (topS 8)) 171 bVal) (m : mg "ValueError" = none) (v : PySem.W.findCls K (.type bVal.B) (.type "type") "__init__" = some (.val (.builtin bVal.ini))) (no : PySem.W.findIn K (.ref 171) "number" = some none) : ExC K 171 bVal ∧ ExM P w K mg base "Clash" 171 (some "number") ∧ mg "Clash" = some (.ref 171) :=
  ex_of X G ok_bVal H rfl m v no rfl ⟨rfl, rfl, rfl, by decide +kernel, rfl, by decide +kernel, by decide +kernel⟩ (by decide +kernel) (by decide +kernel) (by decide +kernel) (fun _ => ⟨_, rfl⟩) (by decide +kernel) (fun _ _ _ _ _ _ _ _ => rfl) (fun _ _ _ _ _ _ _ _ => rfl)
theorem ex_Loose (H : ExHas K "Loose" "Loose.__init__" (inS (topS 9)) 191 bVal) (m : mg "ValueError" = none) (v : PySem.W.findCls K (.type bVal.B) (.type "type") "__init__" = some (.val (.builtin bVal.ini))) (no : PySem.W.findIn K (.ref 191) "place" = some none) : ExC K 191 bVal ∧ ExM P w K mg base "Loose" 191 (some "place") ∧ mg "Loose" = some (.ref 191) :=
  ex_of X G ok_bVal H rfl m v no rfl ⟨rfl, rfl, rfl, by decide +kernel, rfl, by decide +kernel, by decide +kernel⟩ (by decide +kernel) (by decide +kernel) (by decide +kernel) (fun _ => ⟨_, rfl⟩) (by decide +kernel) (fun _ _ _ _ _ _ _ _ => rfl) (fun _ _ _ _ _ _ _ _ => rfl)
theorem ex_Round (H : ExHas K "Round" "Round.__init__" (inS (topS 10)) 211 bVal) (m : mg "ValueError" = none) (v : PySem.W.findCls K (.type bVal.B) (.type "type") "__init__" = some (.val (.builtin bVal.ini))) (no : PySem.W.findIn K (.ref 211) "ring" = some none) : ExC K 211 bVal ∧ ExM P w K mg base "Round" 211 (some "ring") ∧ mg "Round" = some (.ref 211) :=
  ex_of X G ok_bVal H rfl m v no rfl ⟨rfl, rfl, rfl, by decide +kernel, rfl, by decide +kernel, by decide +kernel⟩ (by decide +kernel) (by decide +kernel) (by decide +kernel) (fun _ => ⟨_, rfl⟩) (by decide +kernel) (fun _ _ _ _ _ _ _ _ => rfl) (fun _ _ _ _ _ _ _ _ => rfl)
theorem ex_NoBrook (H : ExHas K "NoBrook" "NoBrook.__init__" (inS (topS 11)) 231 bKey) (m : mg "KeyError" = none) (v : PySem.W.findCls K (.type bKey.B) (.type "type") "__init__" = some (.val (.builtin bKey.ini))) (no : PySem.W.findIn K (.ref 231) "name" = some none) : ExC K 231 bKey ∧ ExM P w K mg base "NoBrook" 231 (some "name") ∧ mg "NoBrook" = some (.ref 231) :=
  ex_of X G ok_bKey H rfl m v no rfl ⟨rfl, rfl, rfl, by decide +kernel, rfl, by decide +kernel, by decide +kernel⟩ (by decide +kernel) (by decide +kernel) (by decide +kernel) (fun _ => ⟨_, rfl⟩) (by decide +kernel) (fun _ _ _ _ _ _ _ _ => rfl) (fun _ _ _ _ _ _ _ _ => rfl)
theorem ex_NoSpring (H : ExHas K "NoSpring" "NoSpring.__init__" (inS (topS 12)) 251 bKey) (m : mg "KeyError" = none) (v : PySem.W.findCls K (.type bKey.B) (.type "type") "__init__" = some (.val (.builtin bKey.ini))) (no : PySem.W.findIn K (.ref 251) "name" = some none) : ExC K 251 bKey ∧ ExM P w K mg base "NoSpring" 251 (some "name") ∧ mg "NoSpring" = some (.ref 251) :=
  ex_of X G ok_bKey H rfl m v no rfl ⟨rfl, rfl, rfl, by decide +kernel, rfl, by decide +kernel, by decide +kernel⟩ (by decide +kernel) (by decide +kernel) (by decide +kernel) (fun _ => ⟨_, rfl⟩) (by decide +kernel) (fun _ _ _ _ _ _ _ _ => rfl) (fun _ _ _ _ _ _ _ _ => rfl)
theorem ex_NoName (H : ExHas K "NoName" "NoName.__init__" (inS (topS 13)) 271 bKey) (m : mg "KeyError" = none) (v : PySem.W.findCls K (.type bKey.B) (.type "type") "__init__" = some (.val (.builtin bKey.ini))) (no : PySem.W.findIn K (.ref 271) "name" = some none) : ExC K 271 bKey ∧ ExM P w K mg base "NoName" 271 (some "name") ∧ mg "NoName" = some (.ref 271) :=
  ex_of X G ok_bKey H rfl m v no rfl ⟨rfl, rfl, rfl, by decide +kernel, rfl, by decide +kernel, by decide +kernel⟩ (by decide +kernel) (by decide +kernel) (by decide +kernel) (fun _ => ⟨_, rfl⟩) (by decide +kernel) (fun _ _ _ _ _ _ _ _ => rfl) (fun _ _ _ _ _ _ _ _ => rfl)
theorem ex_NoOut (H : ExHas K "NoOut" "NoOut.__init__" (inS (topS 14)) 291 bKey) (m : mg "KeyError" = none) (v : PySem.W.findCls K (.type bKey.B) (.type "type") "__init__" = some (.val (.builtin bKey.ini))) (no : PySem.W.findIn K (.ref 291) "out" = some none) : ExC K 291 bKey ∧ ExM P w K mg base "NoOut" 291 (some "out") ∧ mg "NoOut" = some (.ref 291) :=
  ex_of X G ok_bKey H rfl m v no rfl ⟨rfl, rfl, rfl, by decide +kernel, rfl, by decide +kernel, by decide +kernel⟩ (by decide +kernel) (by decide +kernel) (by decide +kernel) (fun _ => ⟨_, rfl⟩) (by decide +kernel) (fun _ _ _ _ _ _ _ _ => rfl) (fun _ _ _ _ _ _ _ _ => rfl)
theorem ex_NotGiven (H : ExHas K "NotGiven" "NotGiven.__init__" (inS (topS 15)) 311 bKey) (m : mg "KeyError" = none) (v : PySem.W.findCls K (.type bKey.B) (.type "type") "__init__" = some (.val (.builtin bKey.ini))) (no : PySem.W.findIn K (.ref 311) "name" = some none) : ExC K 311 bKey ∧ ExM P w K mg base "NotGiven" 311 (some "name") ∧ mg "NotGiven" = some (.ref 311) :=
  ex_of X G ok_bKey H rfl m v no rfl ⟨rfl, rfl, rfl, by decide +kernel, rfl, by decide +kernel, by decide +kernel⟩ (by decide +kernel) (by decide +kernel) (by decide +kernel) (fun _ => ⟨_, rfl⟩) (by decide +kernel) (fun _ _ _ _ _ _ _ _ => rfl) (fun _ _ _ _ _ _ _ _ => rfl)
theorem ex_NoPath (H : ExHas K "NoPath" "NoPath.__init__" (inS (topS 16)) 331 bLok) (m : mg "LookupError" = none) (v : PySem.W.findCls K (.type bLok.B) (.type "type") "__init__" = some (.val (.builtin bLok.ini))) (no : PySem.W.findIn K (.ref 331) "path" = some none) : ExC K 331 bLok ∧ ExM P w K mg base "NoPath" 331 (some "path") ∧ mg "NoPath" = some (.ref 331) :=
  ex_of X G ok_bLok H rfl m v no rfl ⟨rfl, rfl, rfl, by decide +kernel, rfl, by decide +kernel, by decide +kernel⟩ (by decide +kernel) (by decide +kernel) (by decide +kernel) (fun _ => ⟨_, rfl⟩) (by decide +kernel) (fun _ _ _ _ _ _ _ _ => rfl) (fun _ _ _ _ _ _ _ _ => rfl)
theorem ex_Dry (H : ExHas K "Dry" "Dry.__init__" (inS (topS 17)) 351 bLok) (m : mg "LookupError" = none) (v : PySem.W.findCls K (.type bLok.B) (.type "type") "__init__" = some (.val (.builtin bLok.ini))) (no : PySem.W.findIn K (.ref 351) "name" = some none) : ExC K 351 bLok ∧ ExM P w K mg base "Dry" 351 (some "name") ∧ mg "Dry" = some (.ref 351) :=
  ex_of X G ok_bLok H rfl m v no rfl ⟨rfl, rfl, rfl, by decide +kernel, rfl, by decide +kernel, by decide +kernel⟩ (by decide +kernel) (by decide +kernel) (by decide +kernel) (fun _ => ⟨_, rfl⟩) (by decide +kernel) (fun _ _ _ _ _ _ _ _ => rfl) (fun _ _ _ _ _ _ _ _ => rfl)
theorem ex_NotNow (H : ExHas K "NotNow" "NotNow.__init__" (inS (topS 18)) 371 bRun) (m : mg "RuntimeError" = none) (v : PySem.W.findCls K (.type bRun.B) (.type "type") "__init__" = some (.val (.builtin bRun.ini))) (no : PySem.W.findIn K (.ref 371) "at" = some none) : ExC K 371 bRun ∧ ExM P w K mg base "NotNow" 371 (some "at") ∧ mg "NotNow" = some (.ref 371) :=
  ex_of X G ok_bRun H rfl m v no rfl ⟨rfl, rfl, rfl, by decide +kernel, rfl, by decide +kernel, by decide +kernel⟩ (by decide +kernel) (by decide +kernel) (by decide +kernel) (fun _ => ⟨_, rfl⟩) (by decide +kernel) (fun _ _ _ _ _ _ _ _ => rfl) (fun _ _ _ _ _ _ _ _ => rfl)
theorem ex_Used (H : ExHas K "Used" "Used.__init__" (inS (topS 19)) 391 bRun) (m : mg "RuntimeError" = none) (v : PySem.W.findCls K (.type bRun.B) (.type "type") "__init__" = some (.val (.builtin bRun.ini))) (no : PySem.W.findIn K (.ref 391) "other" = some none) : ExC K 391 bRun ∧ ExM P w K mg base "Used" 391 (some "other") ∧ mg "Used" = some (.ref 391) :=
  ex_of X G ok_bRun H rfl m v no rfl ⟨rfl, rfl, rfl, by decide +kernel, rfl, by decide +kernel, by decide +kernel⟩ (by decide +kernel) (by decide +kernel) (by decide +kernel) (fun _ => ⟨_, rfl⟩) (by decide +kernel) (fun _ _ _ _ _ _ _ _ => rfl) (fun _ _ _ _ _ _ _ _ => rfl)
theorem ex_LastOut (H : ExHas K "LastOut" "LastOut.__init__" (inS (topS 20)) 411 bRun) (m : mg "RuntimeError" = none) (v : PySem.W.findCls K (.type bRun.B) (.type "type") "__init__" = some (.val (.builtin bRun.ini))) (no : PySem.W.findIn K (.ref 411) "name" = some none) : ExC K 411 bRun ∧ ExM P w K mg base "LastOut" 411 (some "name") ∧ mg "LastOut" = some (.ref 411) :=
  ex_of X G ok_bRun H rfl m v no rfl ⟨rfl, rfl, rfl, by decide +kernel, rfl, by decide +kernel, by decide +kernel⟩ (by decide +kernel) (by decide +kernel) (by decide +kernel) (fun _ => ⟨_, rfl⟩) (by decide +kernel) (fun _ _ _ _ _ _ _ _ => rfl) (fun _ _ _ _ _ _ _ _ => rfl)
theorem ex_IsOut (H : ExHas K "IsOut" "IsOut.__init__" (inS (topS 21)) 431 bRun) (m : mg "RuntimeError" = none) (v : PySem.W.findCls K (.type bRun.B) (.type "type") "__init__" = some (.val (.builtin bRun.ini))) (no : PySem.W.findIn K (.ref 431) "name" = some none) : ExC K 431 bRun ∧ ExM P w K mg base "IsOut" 431 (some "name") ∧ mg "IsOut" = some (.ref 431) :=
  ex_of X G ok_bRun H rfl m v no rfl ⟨rfl, rfl, rfl, by decide +kernel, rfl, by decide +kernel, by decide +kernel⟩ (by decide +kernel) (by decide +kernel) (by decide +kernel) (fun _ => ⟨_, rfl⟩) (by decide +kernel) (fun _ _ _ _ _ _ _ _ => rfl) (fun _ _ _ _ _ _ _ _ => rfl)
theorem ex_NotOut (H : ExHas K "NotOut" "NotOut.__init__" (inS (topS 22)) 451 bRun) (m : mg "RuntimeError" = none) (v : PySem.W.findCls K (.type bRun.B) (.type "type") "__init__" = some (.val (.builtin bRun.ini))) (no : PySem.W.findIn K (.ref 451) "name" = some none) : ExC K 451 bRun ∧ ExM P w K mg base "NotOut" 451 (some "name") ∧ mg "NotOut" = some (.ref 451) :=
  ex_of X G ok_bRun H rfl m v no rfl ⟨rfl, rfl, rfl, by decide +kernel, rfl, by decide +kernel, by decide +kernel⟩ (by decide +kernel) (by decide +kernel) (by decide +kernel) (fun _ => ⟨_, rfl⟩) (by decide +kernel) (fun _ _ _ _ _ _ _ _ => rfl) (fun _ _ _ _ _ _ _ _ => rfl)
theorem ex_Unsure (H : ExHas K "Unsure" "Unsure.__init__" (inS (topS 23)) 471 bRun) (m : mg "RuntimeError" = none) (v : PySem.W.findCls K (.type bRun.B) (.type "type") "__init__" = some (.val (.builtin bRun.ini))) (no : PySem.W.findIn K (.ref 471) "node" = some none) : ExC K 471 bRun ∧ ExM P w K mg base "Unsure" 471 (some "node") ∧ mg "Unsure" = some (.ref 471) :=
  ex_of X G ok_bRun H rfl m v no rfl ⟨rfl, rfl, rfl, by decide +kernel, rfl, by decide +kernel, by decide +kernel⟩ (by decide +kernel) (by decide +kernel) (by decide +kernel) (fun _ => ⟨_, rfl⟩) (by decide +kernel) (fun _ _ _ _ _ _ _ _ => rfl) (fun _ _ _ _ _ _ _ _ => rfl)
theorem ex_TooFar (H : ExHas K "TooFar" "TooFar.__init__" (inS (topS 24)) 491 bOvf) (m : mg "OverflowError" = none) (v : PySem.W.findCls K (.type bOvf.B) (.type "type") "__init__" = some (.val (.builtin bOvf.ini))) (no : PySem.W.findIn K (.ref 491) "place" = some none) : ExC K 491 bOvf ∧ ExM P w K mg base "TooFar" 491 (some "place") ∧ mg "TooFar" = some (.ref 491) :=
  ex_of X G ok_bOvf H rfl m v no rfl ⟨rfl, rfl, rfl, by decide +kernel, rfl, by decide +kernel, by decide +kernel⟩ (by decide +kernel) (by decide +kernel) (by decide +kernel) (fun _ => ⟨_, rfl⟩) (by decide +kernel) (fun _ _ _ _ _ _ _ _ => rfl) (fun _ _ _ _ _ _ _ _ => rfl)
theorem ex_TooFew (H : ExHas K "TooFew" "TooFew.__init__" (inS (topS 25)) 511 bOvf) (m : mg "OverflowError" = none) (v : PySem.W.findCls K (.type bOvf.B) (.type "type") "__init__" = some (.val (.builtin bOvf.ini))) (no : PySem.W.findIn K (.ref 511) "need" = some none) : ExC K 511 bOvf ∧ ExM P w K mg base "TooFew" 511 (some "need") ∧ mg "TooFew" = some (.ref 511) :=
  ex_of X G ok_bOvf H rfl m v no rfl ⟨rfl, rfl, rfl, by decide +kernel, rfl, by decide +kernel, by decide +kernel⟩ (by decide +kernel) (by decide +kernel) (by decide +kernel) (fun _ => ⟨_, rfl⟩) (by decide +kernel) (fun _ _ _ _ _ _ _ _ => rfl) (fun _ _ _ _ _ _ _ _ => rfl)
theorem ex_Small (H : ExHas K "Small" "Small.__init__" (inS (topS 26)) 531 bOvf) (m : mg "OverflowError" = none) (v : PySem.W.findCls K (.type bOvf.B) (.type "type") "__init__" = some (.val (.builtin bOvf.ini))) (no : PySem.W.findIn K (.ref 531) "place" = some none) : ExC K 531 bOvf ∧ ExM P w K mg base "Small" 531 (some "place") ∧ mg "Small" = some (.ref 531) :=
  ex_of X G ok_bOvf H rfl m v no rfl ⟨rfl, rfl, rfl, by decide +kernel, rfl, by decide +kernel, by decide +kernel⟩ (by decide +kernel) (by decide +kernel) (by decide +kernel) (fun _ => ⟨_, rfl⟩) (by decide +kernel) (fun _ _ _ _ _ _ _ _ => rfl) (fun _ _ _ _ _ _ _ _ => rfl)
theorem ex_TooMany (H : ExHas K "TooMany" "TooMany.__init__" (inS (topS 27)) 551 bOvf) (m : mg "OverflowError" = none) (v : PySem.W.findCls K (.type bOvf.B) (.type "type") "__init__" = some (.val (.builtin bOvf.ini))) (no : PySem.W.findIn K (.ref 551) "most" = some none) : ExC K 551 bOvf ∧ ExM P w K mg base "TooMany" 551 (some "most") ∧ mg "TooMany" = some (.ref 551) :=
  ex_of X G ok_bOvf H rfl m v no rfl ⟨rfl, rfl, rfl, by decide +kernel, rfl, by decide +kernel, by decide +kernel⟩ (by decide +kernel) (by decide +kernel) (by decide +kernel) (fun _ => ⟨_, rfl⟩) (by decide +kernel) (fun _ _ _ _ _ _ _ _ => rfl) (fun _ _ _ _ _ _ _ _ => rfl)
theorem ex_TooBig (H : ExHas K "TooBig" "TooBig.__init__" (inS (topS 28)) 571 bOvf) (m : mg "OverflowError" = none) (v : PySem.W.findCls K (.type bOvf.B) (.type "type") "__init__" = some (.val (.builtin bOvf.ini))) : ExC K 571 bOvf ∧ ExM P w K mg base "TooBig" 571 none ∧ mg "TooBig" = some (.ref 571) :=
  ex_of0 X G ok_bOvf H rfl m v rfl ⟨rfl, rfl, rfl, by decide +kernel, rfl, by decide +kernel, by decide +kernel⟩ (by decide +kernel) (by decide +kernel) (fun _ => ⟨_, rfl⟩) (by decide +kernel) (fun _ _ _ _ _ _ _ => rfl)
end
theorem all_ok {P : Program} {w : World} {K : PySem.W.Frag} {mg : Str → Option Value} {h : Heap} {fa : Addr} (X : K.In h) (G : h.Ns mainGlobals mg) (hfa : mg "law" = some (.ref fa)) (h_l_dip : Has K "_law_dip" (topS 37) []) (h_l_take : Has K "_law_take" (topS 38) []) (h_l_folded : Has K "_law_folded" (topS 39) []) (h_l_same : Has K "_law_same" (topS 40) []) (h_l_keywords : Has K "_law_keywords" (topS 41) []) (h_l_own : Has K "_law_own" (topS 42) []) (h_l_over : Has K "_law_over" (topS 43) []) (h_l_made : Has K "_law_made" (topS 44) []) (h_l_called : Has K "_law_called" (topS 45) []) (h_l_fields : Has K "_law_fields" (topS 46) []) (h_l_odd : Has K "_law_odd" (topS 47) []) (h_l_right : Has K "_law_right" (topS 48) []) (h_law : Has K "law" (topS 49) []) (x_BadText : ExHas K "BadText" "BadText.__init__" (inS (topS 1)) 31 bVal) (n_BadText : PySem.W.findIn K (.ref 31) "text" = some none) (x_BadWord : ExHas K "BadWord" "BadWord.__init__" (inS (topS 2)) 51 bVal) (n_BadWord : PySem.W.findIn K (.ref 51) "at" = some none) (x_BadRow : ExHas K "BadRow" "BadRow.__init__" (inS (topS 3)) 71 bVal) (n_BadRow : PySem.W.findIn K (.ref 71) "row" = some none) (x_BadName : ExHas K "BadName" "BadName.__init__" (inS (topS 4)) 91 bVal) (n_BadName : PySem.W.findIn K (.ref 91) "name" = some none) (x_BadTerm : ExHas K "BadTerm" "BadTerm.__init__" (inS (topS 5)) 111 bVal) (n_BadTerm : PySem.W.findIn K (.ref 111) "thing" = some none) (x_BadNumbers : ExHas K "BadNumbers" "BadNumbers.__init__" (inS (topS 6)) 131 bVal) (n_BadNumbers : PySem.W.findIn K (.ref 131) "thing" = some none) (x_BadDeed : ExHas K "BadDeed" "BadDeed.__init__" (inS (topS 7)) 151 bVal) (n_BadDeed : PySem.W.findIn K (.ref 151) "number" = some none) (x_Clash : ExHas K "Clash" "Clash.__init__" (inS (topS 8)) 171 bVal) (n_Clash : PySem.W.findIn K (.ref 171) "number" = some none) (x_Loose : ExHas K "Loose" "Loose.__init__" (inS (topS 9)) 191 bVal) (n_Loose : PySem.W.findIn K (.ref 191) "place" = some none) (x_Round : ExHas K "Round" "Round.__init__" (inS (topS 10)) 211 bVal) (n_Round : PySem.W.findIn K (.ref 211) "ring" = some none) (x_NoBrook : ExHas K "NoBrook" "NoBrook.__init__" (inS (topS 11)) 231 bKey) (n_NoBrook : PySem.W.findIn K (.ref 231) "name" = some none) (x_NoSpring : ExHas K "NoSpring" "NoSpring.__init__" (inS (topS 12)) 251 bKey) (n_NoSpring : PySem.W.findIn K (.ref 251) "name" = some none) (x_NoName : ExHas K "NoName" "NoName.__init__" (inS (topS 13)) 271 bKey) (n_NoName : PySem.W.findIn K (.ref 271) "name" = some none) (x_NoOut : ExHas K "NoOut" "NoOut.__init__" (inS (topS 14)) 291 bKey) (n_NoOut : PySem.W.findIn K (.ref 291) "out" = some none) (x_NotGiven : ExHas K "NotGiven" "NotGiven.__init__" (inS (topS 15)) 311 bKey) (n_NotGiven : PySem.W.findIn K (.ref 311) "name" = some none) (x_NoPath : ExHas K "NoPath" "NoPath.__init__" (inS (topS 16)) 331 bLok) (n_NoPath : PySem.W.findIn K (.ref 331) "path" = some none) (x_Dry : ExHas K "Dry" "Dry.__init__" (inS (topS 17)) 351 bLok) (n_Dry : PySem.W.findIn K (.ref 351) "name" = some none) (x_NotNow : ExHas K "NotNow" "NotNow.__init__" (inS (topS 18)) 371 bRun) (n_NotNow : PySem.W.findIn K (.ref 371) "at" = some none) (x_Used : ExHas K "Used" "Used.__init__" (inS (topS 19)) 391 bRun) (n_Used : PySem.W.findIn K (.ref 391) "other" = some none) (x_LastOut : ExHas K "LastOut" "LastOut.__init__" (inS (topS 20)) 411 bRun) (n_LastOut : PySem.W.findIn K (.ref 411) "name" = some none) (x_IsOut : ExHas K "IsOut" "IsOut.__init__" (inS (topS 21)) 431 bRun) (n_IsOut : PySem.W.findIn K (.ref 431) "name" = some none) (x_NotOut : ExHas K "NotOut" "NotOut.__init__" (inS (topS 22)) 451 bRun) (n_NotOut : PySem.W.findIn K (.ref 451) "name" = some none) (x_Unsure : ExHas K "Unsure" "Unsure.__init__" (inS (topS 23)) 471 bRun) (n_Unsure : PySem.W.findIn K (.ref 471) "node" = some none) (x_TooFar : ExHas K "TooFar" "TooFar.__init__" (inS (topS 24)) 491 bOvf) (n_TooFar : PySem.W.findIn K (.ref 491) "place" = some none) (x_TooFew : ExHas K "TooFew" "TooFew.__init__" (inS (topS 25)) 511 bOvf) (n_TooFew : PySem.W.findIn K (.ref 511) "need" = some none) (x_Small : ExHas K "Small" "Small.__init__" (inS (topS 26)) 531 bOvf) (n_Small : PySem.W.findIn K (.ref 531) "place" = some none) (x_TooMany : ExHas K "TooMany" "TooMany.__init__" (inS (topS 27)) 551 bOvf) (n_TooMany : PySem.W.findIn K (.ref 551) "most" = some none) (x_TooBig : ExHas K "TooBig" "TooBig.__init__" (inS (topS 28)) 571 bOvf) (v_ValueError : PySem.W.findCls K (.type bVal.B) (.type "type") "__init__" = some (.val (.builtin bVal.ini))) (v_KeyError : PySem.W.findCls K (.type bKey.B) (.type "type") "__init__" = some (.val (.builtin bKey.ini))) (v_LookupError : PySem.W.findCls K (.type bLok.B) (.type "type") "__init__" = some (.val (.builtin bLok.ini))) (v_RuntimeError : PySem.W.findCls K (.type bRun.B) (.type "type") "__init__" = some (.val (.builtin bRun.ini))) (v_OverflowError : PySem.W.findCls K (.type bOvf.B) (.type "type") "__init__" = some (.val (.builtin bOvf.ini))) (y_len : PySem.W.nsIn K mainGlobals "len" = some none) (y_abs : PySem.W.nsIn K mainGlobals "abs" = some none) (y_int : PySem.W.nsIn K mainGlobals "int" = some none) (y_list : PySem.W.nsIn K mainGlobals "list" = some none) (y_enumerate : PySem.W.nsIn K mainGlobals "enumerate" = some none) (y_isinstance : PySem.W.nsIn K mainGlobals "isinstance" = some none) (y_dict : PySem.W.nsIn K mainGlobals "dict" = some none) (y_sorted : PySem.W.nsIn K mainGlobals "sorted" = some none) (y_all : PySem.W.nsIn K mainGlobals "all" = some none) (y_tuple : PySem.W.nsIn K mainGlobals "tuple" = some none) (y_zip : PySem.W.nsIn K mainGlobals "zip" = some none) (y_bool : PySem.W.nsIn K mainGlobals "bool" = some none) (y_str : PySem.W.nsIn K mainGlobals "str" = some none) (y_range : PySem.W.nsIn K mainGlobals "range" = some none) (y_ValueError : PySem.W.nsIn K mainGlobals "ValueError" = some none) (y_KeyError : PySem.W.nsIn K mainGlobals "KeyError" = some none) (y_LookupError : PySem.W.nsIn K mainGlobals "LookupError" = some none) (y_IndexError : PySem.W.nsIn K mainGlobals "IndexError" = some none) (y_RuntimeError : PySem.W.nsIn K mainGlobals "RuntimeError" = some none) (y_ArithmeticError : PySem.W.nsIn K mainGlobals "ArithmeticError" = some none) (y_OverflowError : PySem.W.nsIn K mainGlobals "OverflowError" = some none) (y_TypeError : PySem.W.nsIn K mainGlobals "TypeError" = some none) (g_KEYWORDS : ∃ v u, mg "KEYWORDS" = some u ∧ RelV v u ∧ ∀ I, Dt K I v gl_KEYWORDS) (g_SIZE : ∃ v u, mg "SIZE" = some u ∧ RelV v u ∧ ∀ I, Dt K I v gl_SIZE) (g_MOST_BOXES : ∃ v u, mg "MOST_BOXES" = some u ∧ RelV v u ∧ ∀ I, Dt K I v gl_MOST_BOXES) (g_WIDE : ∃ v u, mg "WIDE" = some u ∧ RelV v u ∧ ∀ I, Dt K I v gl_WIDE) (g_FIGURES : ∃ v u, mg "FIGURES" = some u ∧ RelV v u ∧ ∀ I, Dt K I v gl_FIGURES) (g_FINE : ∃ v u, mg "FINE" = some u ∧ RelV v u ∧ ∀ I, Dt K I v gl_FINE) (g_MOST_WAYS : ∃ v u, mg "MOST_WAYS" = some u ∧ RelV v u ∧ ∀ I, Dt K I v gl_MOST_WAYS) :
    ∃ fd : FuncData, (∀ (s : Shared) (v : Value), BindsTo s fd ⟨[v], []⟩ [("_law_script", v)]) ∧ ∀ base : Heap, K.In base → base.Ns mainGlobals mg → FnOk P w K mg base CX0 11 fa fd ["_law_script"] (spF K f_law) := by
  have z_len := PySem.W.mg_none_of X G y_len
  have z_abs := PySem.W.mg_none_of X G y_abs
  have z_int := PySem.W.mg_none_of X G y_int
  have z_list := PySem.W.mg_none_of X G y_list
  have z_enumerate := PySem.W.mg_none_of X G y_enumerate
  have z_isinstance := PySem.W.mg_none_of X G y_isinstance
  have z_dict := PySem.W.mg_none_of X G y_dict
  have z_sorted := PySem.W.mg_none_of X G y_sorted
  have z_all := PySem.W.mg_none_of X G y_all
  have z_tuple := PySem.W.mg_none_of X G y_tuple
  have z_zip := PySem.W.mg_none_of X G y_zip
  have z_bool := PySem.W.mg_none_of X G y_bool
  have z_str := PySem.W.mg_none_of X G y_str
  have z_range := PySem.W.mg_none_of X G y_range
  have z_ValueError := PySem.W.mg_none_of X G y_ValueError
  have z_KeyError := PySem.W.mg_none_of X G y_KeyError
  have z_LookupError := PySem.W.mg_none_of X G y_LookupError
  have z_IndexError := PySem.W.mg_none_of X G y_IndexError
  have z_RuntimeError := PySem.W.mg_none_of X G y_RuntimeError
  have z_ArithmeticError := PySem.W.mg_none_of X G y_ArithmeticError
  have z_OverflowError := PySem.W.mg_none_of X G y_OverflowError
  have z_TypeError := PySem.W.mg_none_of X G y_TypeError
  have h1 : AllB mg bl_law := allB1 z_range (allB1 z_len (allB1 z_all (allB1 z_tuple (trivial))))
  have h2 : AllGl K mg gt_law := ⟨g_KEYWORDS, ⟨g_SIZE, ⟨g_MOST_BOXES, ⟨g_WIDE, ⟨g_FIGURES, ⟨g_FINE, ⟨g_MOST_WAYS, trivial⟩⟩⟩⟩⟩⟩⟩
  have hb : ∀ wf, seqS (EX ⟨N_law, defScope (topS 49), fnsOf tb_law, glOf gt_law, gdOf [], bltOf bl_law, wf, fun _ => true, ex_t⟩ 30) (defBody (topS 49)) = cb_law wf := bd_law
  have hbind : ∀ (kV doc pm : Value) (an : Option Addr) (cdv ct : Value) (us : List Value), us.length = [("_law_script" : Str)].length → bindArgs (PySem.W.fnOf "law" "law" (defArgs (topS 49)) (defBody (topS 49)) (defScope (topS 49)) .none kV doc pm an cdv ct) ⟨us, []⟩ = pure ([("_law_script" : Str)].zip us) := (fun _ _ _ _ _ _ us hl => match us, hl with | [_], _ => rfl)
  have e : f_law = mkF N_law.length [false] (cb_law 400) := rfl
  rw [e]
  refine law_of (k := 10) X G hfa h_law sc_law h1 h2 (by decide) hb hbind fun base _ _ => ?_
  have A : AllEx P w K mg base ex_bt ex_rows := ex_row (C := 31) rfl ok_bVal (ex_BadText X G x_BadText z_ValueError v_ValueError n_BadText) (fun f e => by cases e; exact n_BadText) up_bVal (ex_row (C := 51) rfl ok_bVal (ex_BadWord X G x_BadWord z_ValueError v_ValueError n_BadWord) (fun f e => by cases e; exact n_BadWord) up_bVal (ex_row (C := 71) rfl ok_bVal (ex_BadRow X G x_BadRow z_ValueError v_ValueError n_BadRow) (fun f e => by cases e; exact n_BadRow) up_bVal (ex_row (C := 91) rfl ok_bVal (ex_BadName X G x_BadName z_ValueError v_ValueError n_BadName) (fun f e => by cases e; exact n_BadName) up_bVal (ex_row (C := 111) rfl ok_bVal (ex_BadTerm X G x_BadTerm z_ValueError v_ValueError n_BadTerm) (fun f e => by cases e; exact n_BadTerm) up_bVal (ex_row (C := 131) rfl ok_bVal (ex_BadNumbers X G x_BadNumbers z_ValueError v_ValueError n_BadNumbers) (fun f e => by cases e; exact n_BadNumbers) up_bVal (ex_row (C := 151) rfl ok_bVal (ex_BadDeed X G x_BadDeed z_ValueError v_ValueError n_BadDeed) (fun f e => by cases e; exact n_BadDeed) up_bVal (ex_row (C := 171) rfl ok_bVal (ex_Clash X G x_Clash z_ValueError v_ValueError n_Clash) (fun f e => by cases e; exact n_Clash) up_bVal (ex_row (C := 191) rfl ok_bVal (ex_Loose X G x_Loose z_ValueError v_ValueError n_Loose) (fun f e => by cases e; exact n_Loose) up_bVal (ex_row (C := 211) rfl ok_bVal (ex_Round X G x_Round z_ValueError v_ValueError n_Round) (fun f e => by cases e; exact n_Round) up_bVal (ex_row (C := 231) rfl ok_bKey (ex_NoBrook X G x_NoBrook z_KeyError v_KeyError n_NoBrook) (fun f e => by cases e; exact n_NoBrook) up_bKey (ex_row (C := 251) rfl ok_bKey (ex_NoSpring X G x_NoSpring z_KeyError v_KeyError n_NoSpring) (fun f e => by cases e; exact n_NoSpring) up_bKey (ex_row (C := 271) rfl ok_bKey (ex_NoName X G x_NoName z_KeyError v_KeyError n_NoName) (fun f e => by cases e; exact n_NoName) up_bKey (ex_row (C := 291) rfl ok_bKey (ex_NoOut X G x_NoOut z_KeyError v_KeyError n_NoOut) (fun f e => by cases e; exact n_NoOut) up_bKey (ex_row (C := 311) rfl ok_bKey (ex_NotGiven X G x_NotGiven z_KeyError v_KeyError n_NotGiven) (fun f e => by cases e; exact n_NotGiven) up_bKey (ex_row (C := 331) rfl ok_bLok (ex_NoPath X G x_NoPath z_LookupError v_LookupError n_NoPath) (fun f e => by cases e; exact n_NoPath) up_bLok (ex_row (C := 351) rfl ok_bLok (ex_Dry X G x_Dry z_LookupError v_LookupError n_Dry) (fun f e => by cases e; exact n_Dry) up_bLok (ex_row (C := 371) rfl ok_bRun (ex_NotNow X G x_NotNow z_RuntimeError v_RuntimeError n_NotNow) (fun f e => by cases e; exact n_NotNow) up_bRun (ex_row (C := 391) rfl ok_bRun (ex_Used X G x_Used z_RuntimeError v_RuntimeError n_Used) (fun f e => by cases e; exact n_Used) up_bRun (ex_row (C := 411) rfl ok_bRun (ex_LastOut X G x_LastOut z_RuntimeError v_RuntimeError n_LastOut) (fun f e => by cases e; exact n_LastOut) up_bRun (ex_row (C := 431) rfl ok_bRun (ex_IsOut X G x_IsOut z_RuntimeError v_RuntimeError n_IsOut) (fun f e => by cases e; exact n_IsOut) up_bRun (ex_row (C := 451) rfl ok_bRun (ex_NotOut X G x_NotOut z_RuntimeError v_RuntimeError n_NotOut) (fun f e => by cases e; exact n_NotOut) up_bRun (ex_row (C := 471) rfl ok_bRun (ex_Unsure X G x_Unsure z_RuntimeError v_RuntimeError n_Unsure) (fun f e => by cases e; exact n_Unsure) up_bRun (ex_row (C := 491) rfl ok_bOvf (ex_TooFar X G x_TooFar z_OverflowError v_OverflowError n_TooFar) (fun f e => by cases e; exact n_TooFar) up_bOvf (ex_row (C := 511) rfl ok_bOvf (ex_TooFew X G x_TooFew z_OverflowError v_OverflowError n_TooFew) (fun f e => by cases e; exact n_TooFew) up_bOvf (ex_row (C := 531) rfl ok_bOvf (ex_Small X G x_Small z_OverflowError v_OverflowError n_Small) (fun f e => by cases e; exact n_Small) up_bOvf (ex_row (C := 551) rfl ok_bOvf (ex_TooMany X G x_TooMany z_OverflowError v_OverflowError n_TooMany) (fun f e => by cases e; exact n_TooMany) up_bOvf (ex_row (C := 571) rfl ok_bOvf (ex_TooBig X G x_TooBig z_OverflowError v_OverflowError) (fun f e => by cases e) up_bOvf (trivial))))))))))))))))))))))))))))
  have E : ∀ k, 2 ≤ k → ExOk P w K mg base k ex_t := fun k hk => exOk_of hk (show AllB mg ex_bt from allB1 z_ValueError (allB1 z_KeyError (allB1 z_LookupError (allB1 z_IndexError (allB1 z_RuntimeError (allB1 z_ArithmeticError (allB1 z_OverflowError (allB1 z_TypeError (trivial))))))))) A
  have o_l_dip := ok_l_dip (P := P) (w := w) (base := base) X G h_l_dip z_len z_abs z_int   E
  have o_l_take := ok_l_take (P := P) (w := w) (base := base) X G h_l_take    E
  have o_l_folded := ok_l_folded (P := P) (w := w) (base := base) X G h_l_folded z_list z_enumerate   E
  have o_l_same := ok_l_same (P := P) (w := w) (base := base) X G h_l_same z_isinstance z_dict z_sorted z_all z_tuple z_list z_len z_zip z_bool z_str z_int   E 6
  have o_l_keywords := ok_l_keywords (P := P) (w := w) (base := base) X G h_l_keywords    E
  have o_l_own := ok_l_own (P := P) (w := w) (base := base) X G h_l_own z_isinstance z_enumerate   E
  have o_l_over := ok_l_over (P := P) (w := w) (base := base) X G h_l_over z_isinstance z_zip   E
  have o_l_made := ok_l_made (P := P) (w := w) (base := base) X G h_l_made    E
  have o_l_called := ok_l_called (P := P) (w := w) (base := base) X G h_l_called    E
  have o_l_fields := ok_l_fields (P := P) (w := w) (base := base) X G h_l_fields    E
  have o_l_odd := ok_l_odd (P := P) (w := w) (base := base) X G h_l_odd   o_l_take E
  have o_l_right := ok_l_right (P := P) (w := w) (base := base) X G h_l_right z_range  o_l_made o_l_called o_l_own o_l_over o_l_same o_l_fields E
  exact ⟨(show AllAt _ _ _ _ _ _ tb_law from allAt1 (o_l_folded.at (by decide)) (allAt1 (o_l_dip.at (by decide)) (allAt1 (o_l_right.at (by decide)) (allAt1 (o_l_odd.at (by decide)) (allAt1 (o_l_same.at (by decide)) (allAt1 (o_l_keywords.at (by decide)) (trivial))))))), E _ (by decide)⟩
theorem walk {l : PySem.W.OpenLaw} {q : Program} {loose : List Str} {XP : (Str → Option Value) → Heap → Prop} {YP : World → Heap → Prop} {d : DefRec} {K : Params → PySem.W.Frag} (hn : l.most = some 63) (hdf : d.params.defaults = [])
    (hY : ∀ (w : World) (h : Heap), YP w h → (K w.params).In h)
    (F : ∀ (w : World) (mg : Str → Option Value) (fa : Addr) (h : Heap), (K w.params).In h → h.Ns mainGlobals mg → mg d.name = some (.ref fa) →
      ∃ fd : FuncData, (∀ (s : Shared) (u : Value), BindsTo s fd ⟨[u], []⟩ [("_law_script", u)]) ∧ ∀ base : Heap, (K w.params).In base → base.Ns mainGlobals mg → FnOk l.prog w (K w.params) mg base CX0 11 fa fd ["_law_script"] (spF (K w.params) f_law)) :
    PySem.W.WalkO q loose XP YP l.row.toRowW d [] (fun f vs => PySem.call f vs) :=
  L2.walk_of (n := 63) (k := 11) (x := "_law_script") (CX := fun _ => CX0) (sp := fun w => spF (K w.params) f_law) hn (by decide) hdf ⟨rfl, by decide, by decide⟩ hY F (fun _ _ _ ns hl _ hS => sp_law rfl hS (ev_law ns)) fun _ _ _ _ _ z => z
end K01
end

set_option Elab.async false
open PySem PySem.W PyProof.Rows
set_option maxRecDepth 100000 in
set_option maxHeartbeats 0 in
theorem PySem.Challenge.cw_brookworks_k01_refusals_and_limits_holds : PySem.Challenge.rw_brookworks_k01_refusals_and_limits.Holds := by
  w_on; o_law; k_head; (case hw => w_witness2)
  k_fill
  refine K01.walk (l := PySem.Challenge.rw_brookworks_k01_refusals_and_limits) rfl rfl (fun w h Y => PySem.W.kIn_of Y) ?F
  case F =>
    intro w mg fa h KX G hmg
    refine' K01.all_ok KX G hmg ?h_l_dip ?h_l_take ?h_l_folded ?h_l_same ?h_l_keywords ?h_l_own ?h_l_over ?h_l_made ?h_l_called ?h_l_fields ?h_l_odd ?h_l_right ?h_law ?x_BadText ?n_BadText ?x_BadWord ?n_BadWord ?x_BadRow ?n_BadRow ?x_BadName ?n_BadName ?x_BadTerm ?n_BadTerm ?x_BadNumbers ?n_BadNumbers ?x_BadDeed ?n_BadDeed ?x_Clash ?n_Clash ?x_Loose ?n_Loose ?x_Round ?n_Round ?x_NoBrook ?n_NoBrook ?x_NoSpring ?n_NoSpring ?x_NoName ?n_NoName ?x_NoOut ?n_NoOut ?x_NotGiven ?n_NotGiven ?x_NoPath ?n_NoPath ?x_Dry ?n_Dry ?x_NotNow ?n_NotNow ?x_Used ?n_Used ?x_LastOut ?n_LastOut ?x_IsOut ?n_IsOut ?x_NotOut ?n_NotOut ?x_Unsure ?n_Unsure ?x_TooFar ?n_TooFar ?x_TooFew ?n_TooFew ?x_Small ?n_Small ?x_TooMany ?n_TooMany ?x_TooBig ?v_ValueError ?v_KeyError ?v_LookupError ?v_RuntimeError ?v_OverflowError ?y_len ?y_abs ?y_int ?y_list ?y_enumerate ?y_isinstance ?y_dict ?y_sorted ?y_all ?y_tuple ?y_zip ?y_bool ?y_str ?y_range ?y_ValueError ?y_KeyError ?y_LookupError ?y_IndexError ?y_RuntimeError ?y_ArithmeticError ?y_OverflowError ?y_TypeError ?g_KEYWORDS ?g_SIZE ?g_MOST_BOXES ?g_WIDE ?g_FIGURES ?g_FINE ?g_MOST_WAYS
    case h_l_dip =>
      refine' Nw.has_mk ?a ?l ?c ?k
      (case a => k_is); (case l => k_is); (case c => k_is); (case k => k_is)
    case h_l_take =>
      refine' Nw.has_mk ?a ?l ?c ?k
      (case a => k_is); (case l => k_is); (case c => k_is); (case k => k_is)
    case h_l_folded =>
      refine' Nw.has_mk ?a ?l ?c ?k
      (case a => k_is); (case l => k_is); (case c => k_is); (case k => k_is)
    case h_l_same =>
      refine' Nw.has_mk ?a ?l ?c ?k
      (case a => k_is); (case l => k_is); (case c => k_is); (case k => k_is)
    case h_l_keywords =>
      refine' Nw.has_mk ?a ?l ?c ?k
      (case a => k_is); (case l => k_is); (case c => k_is); (case k => k_is)
    case h_l_own =>
      refine' Nw.has_mk ?a ?l ?c ?k
      (case a => k_is); (case l => k_is); (case c => k_is); (case k => k_is)
    case h_l_over =>
      refine' Nw.has_mk ?a ?l ?c ?k
      (case a => k_is); (case l => k_is); (case c => k_is); (case k => k_is)
    case h_l_made =>
      refine' Nw.has_mk ?a ?l ?c ?k
      (case a => k_is); (case l => k_is); (case c => k_is); (case k => k_is)
    case h_l_called =>
      refine' Nw.has_mk ?a ?l ?c ?k
      (case a => k_is); (case l => k_is); (case c => k_is); (case k => k_is)
    case h_l_fields =>
      refine' Nw.has_mk ?a ?l ?c ?k
      (case a => k_is); (case l => k_is); (case c => k_is); (case k => k_is)
    case h_l_odd =>
      refine' Nw.has_mk ?a ?l ?c ?k
      (case a => k_is); (case l => k_is); (case c => k_is); (case k => k_is)
    case h_l_right =>
      refine' Nw.has_mk ?a ?l ?c ?k
      (case a => k_is); (case l => k_is); (case c => k_is); (case k => k_is)
    case h_law =>
      refine' Nw.has_mk ?a ?l ?c ?k
      (case a => k_is); (case l => k_is); (case c => k_is); (case k => k_is)
    case x_BadText =>
      refine' Nw.exhas_mk ?a ?e ?i ?t ?l ?c ?k
      (case a => k_is); (case e => kernel_rfl); (case i => k_is); (case t => k_is); (case l => k_is); (case c => k_is); (case k => k_is)
    case n_BadText => k_is
    case x_BadWord =>
      refine' Nw.exhas_mk ?a ?e ?i ?t ?l ?c ?k
      (case a => k_is); (case e => kernel_rfl); (case i => k_is); (case t => k_is); (case l => k_is); (case c => k_is); (case k => k_is)
    case n_BadWord => k_is
    case x_BadRow =>
      refine' Nw.exhas_mk ?a ?e ?i ?t ?l ?c ?k
      (case a => k_is); (case e => kernel_rfl); (case i => k_is); (case t => k_is); (case l => k_is); (case c => k_is); (case k => k_is)
    case n_BadRow => k_is
    case x_BadName =>
      refine' Nw.exhas_mk ?a ?e ?i ?t ?l ?c ?k
      (case a => k_is); (case e => kernel_rfl); (case i => k_is); (case t => k_is); (case l => k_is); (case c => k_is); (case k => k_is)
    case n_BadName => k_is
    case x_BadTerm =>
      refine' Nw.exhas_mk ?a ?e ?i ?t ?l ?c ?k
      (case a => k_is); (case e => kernel_rfl); (case i => k_is); (case t => k_is); (case l => k_is); (case c => k_is); (case k => k_is)
    case n_BadTerm => k_is
    case x_BadNumbers =>
      refine' Nw.exhas_mk ?a ?e ?i ?t ?l ?c ?k
      (case a => k_is); (case e => kernel_rfl); (case i => k_is); (case t => k_is); (case l => k_is); (case c => k_is); (case k => k_is)
    case n_BadNumbers => k_is
    case x_BadDeed =>
      refine' Nw.exhas_mk ?a ?e ?i ?t ?l ?c ?k
      (case a => k_is); (case e => kernel_rfl); (case i => k_is); (case t => k_is); (case l => k_is); (case c => k_is); (case k => k_is)
    case n_BadDeed => k_is
    case x_Clash =>
      refine' Nw.exhas_mk ?a ?e ?i ?t ?l ?c ?k
      (case a => k_is); (case e => kernel_rfl); (case i => k_is); (case t => k_is); (case l => k_is); (case c => k_is); (case k => k_is)
    case n_Clash => k_is
    case x_Loose =>
      refine' Nw.exhas_mk ?a ?e ?i ?t ?l ?c ?k
      (case a => k_is); (case e => kernel_rfl); (case i => k_is); (case t => k_is); (case l => k_is); (case c => k_is); (case k => k_is)
    case n_Loose => k_is
    case x_Round =>
      refine' Nw.exhas_mk ?a ?e ?i ?t ?l ?c ?k
      (case a => k_is); (case e => kernel_rfl); (case i => k_is); (case t => k_is); (case l => k_is); (case c => k_is); (case k => k_is)
    case n_Round => k_is
    case x_NoBrook =>
      refine' Nw.exhas_mk ?a ?e ?i ?t ?l ?c ?k
      (case a => k_is); (case e => kernel_rfl); (case i => k_is); (case t => k_is); (case l => k_is); (case c => k_is); (case k => k_is)
    case n_NoBrook => k_is
    case x_NoSpring =>
      refine' Nw.exhas_mk ?a ?e ?i ?t ?l ?c ?k
      (case a => k_is); (case e => kernel_rfl); (case i => k_is); (case t => k_is); (case l => k_is); (case c => k_is); (case k => k_is)
    case n_NoSpring => k_is
    case x_NoName =>
      refine' Nw.exhas_mk ?a ?e ?i ?t ?l ?c ?k
      (case a => k_is); (case e => kernel_rfl); (case i => k_is); (case t => k_is); (case l => k_is); (case c => k_is); (case k => k_is)
    case n_NoName => k_is
    case x_NoOut =>
      refine' Nw.exhas_mk ?a ?e ?i ?t ?l ?c ?k
      (case a => k_is); (case e => kernel_rfl); (case i => k_is); (case t => k_is); (case l => k_is); (case c => k_is); (case k => k_is)
    case n_NoOut => k_is
    case x_NotGiven =>
      refine' Nw.exhas_mk ?a ?e ?i ?t ?l ?c ?k
      (case a => k_is); (case e => kernel_rfl); (case i => k_is); (case t => k_is); (case l => k_is); (case c => k_is); (case k => k_is)
    case n_NotGiven => k_is
    case x_NoPath =>
      refine' Nw.exhas_mk ?a ?e ?i ?t ?l ?c ?k
      (case a => k_is); (case e => kernel_rfl); (case i => k_is); (case t => k_is); (case l => k_is); (case c => k_is); (case k => k_is)
    case n_NoPath => k_is
    case x_Dry =>
      refine' Nw.exhas_mk ?a ?e ?i ?t ?l ?c ?k
      (case a => k_is); (case e => kernel_rfl); (case i => k_is); (case t => k_is); (case l => k_is); (case c => k_is); (case k => k_is)
    case n_Dry => k_is
    case x_NotNow =>
      refine' Nw.exhas_mk ?a ?e ?i ?t ?l ?c ?k
      (case a => k_is); (case e => kernel_rfl); (case i => k_is); (case t => k_is); (case l => k_is); (case c => k_is); (case k => k_is)
    case n_NotNow => k_is
    case x_Used =>
      refine' Nw.exhas_mk ?a ?e ?i ?t ?l ?c ?k
      (case a => k_is); (case e => kernel_rfl); (case i => k_is); (case t => k_is); (case l => k_is); (case c => k_is); (case k => k_is)
    case n_Used => k_is
    case x_LastOut =>
      refine' Nw.exhas_mk ?a ?e ?i ?t ?l ?c ?k
      (case a => k_is); (case e => kernel_rfl); (case i => k_is); (case t => k_is); (case l => k_is); (case c => k_is); (case k => k_is)
    case n_LastOut => k_is
    case x_IsOut =>
      refine' Nw.exhas_mk ?a ?e ?i ?t ?l ?c ?k
      (case a => k_is); (case e => kernel_rfl); (case i => k_is); (case t => k_is); (case l => k_is); (case c => k_is); (case k => k_is)
    case n_IsOut => k_is
    case x_NotOut =>
      refine' Nw.exhas_mk ?a ?e ?i ?t ?l ?c ?k
      (case a => k_is); (case e => kernel_rfl); (case i => k_is); (case t => k_is); (case l => k_is); (case c => k_is); (case k => k_is)
    case n_NotOut => k_is
    case x_Unsure =>
      refine' Nw.exhas_mk ?a ?e ?i ?t ?l ?c ?k
      (case a => k_is); (case e => kernel_rfl); (case i => k_is); (case t => k_is); (case l => k_is); (case c => k_is); (case k => k_is)
    case n_Unsure => k_is
    case x_TooFar =>
      refine' Nw.exhas_mk ?a ?e ?i ?t ?l ?c ?k
      (case a => k_is); (case e => kernel_rfl); (case i => k_is); (case t => k_is); (case l => k_is); (case c => k_is); (case k => k_is)
    case n_TooFar => k_is
    case x_TooFew =>
      refine' Nw.exhas_mk ?a ?e ?i ?t ?l ?c ?k
      (case a => k_is); (case e => kernel_rfl); (case i => k_is); (case t => k_is); (case l => k_is); (case c => k_is); (case k => k_is)
    case n_TooFew => k_is
    case x_Small =>
      refine' Nw.exhas_mk ?a ?e ?i ?t ?l ?c ?k
      (case a => k_is); (case e => kernel_rfl); (case i => k_is); (case t => k_is); (case l => k_is); (case c => k_is); (case k => k_is)
    case n_Small => k_is
    case x_TooMany =>
      refine' Nw.exhas_mk ?a ?e ?i ?t ?l ?c ?k
      (case a => k_is); (case e => kernel_rfl); (case i => k_is); (case t => k_is); (case l => k_is); (case c => k_is); (case k => k_is)
    case n_TooMany => k_is
    case x_TooBig =>
      refine' Nw.exhas_mk ?a ?e ?i ?t ?l ?c ?k
      (case a => k_is); (case e => kernel_rfl); (case i => k_is); (case t => k_is); (case l => k_is); (case c => k_is); (case k => k_is)
    case v_ValueError => k_is
    case v_KeyError => k_is
    case v_LookupError => k_is
    case v_RuntimeError => k_is
    case v_OverflowError => k_is
    case y_len => k_is
    case y_abs => k_is
    case y_int => k_is
    case y_list => k_is
    case y_enumerate => k_is
    case y_isinstance => k_is
    case y_dict => k_is
    case y_sorted => k_is
    case y_all => k_is
    case y_tuple => k_is
    case y_zip => k_is
    case y_bool => k_is
    case y_str => k_is
    case y_range => k_is
    case y_ValueError => k_is
    case y_KeyError => k_is
    case y_LookupError => k_is
    case y_IndexError => k_is
    case y_RuntimeError => k_is
    case y_ArithmeticError => k_is
    case y_OverflowError => k_is
    case y_TypeError => k_is
    case g_KEYWORDS =>
      refine' Nw.gl_t KX G ?a ?l ?v ?z
      (case a => k_is); (case l => k_is); (case v => repeat constructor); (case z => decide +kernel)
    case g_SIZE =>
      refine' Nw.gl_i KX G ?a
      (case a => k_is)
    case g_MOST_BOXES =>
      refine' Nw.gl_i KX G ?a
      (case a => k_is)
    case g_WIDE =>
      refine' Nw.gl_i KX G ?a
      (case a => k_is)
    case g_FIGURES =>
      refine' Nw.gl_i KX G ?a
      (case a => k_is)
    case g_FINE =>
      refine' Nw.gl_i KX G ?a
      (case a => k_is)
    case g_MOST_WAYS =>
      refine' Nw.gl_i KX G ?a
      (case a => k_is)

