import PyProof.Rows.All
import HandS.ForMost
import HandS.ForExc
import HandS.TupAny
import HandS.IsInst
import HandS.Conv
import Wide.All
import OpenK.AllK
import Wide.FinOn
import PySem.Challenge.RW_unsaidways_k09_names
set_option Elab.async false
set_option linter.all false
set_option maxRecDepth 100000
set_option maxHeartbeats 4000000
namespace Z
open PySem PySem.Spec PyProof.Rows L2

mutual
/-- data as it lies: lists and tuples of ours -/
inductive Dp (K : PySem.W.Frag) (H : Hp) : V → PyData → Prop
  | non : Dp K H .non .none
  | bl (b : Bool) : Dp K H (.bl b) (.bool b)
  | int (i : Int) : Dp K H (.int i) (.int i)
  | str (x : Str) : Dp K H (.str x) (.str x)
  | lst {a : Addr} {xs : List V} {ds : List PyData} : H a = some (.lst xs) → DpAll K H xs ds → Dp K H (.ref a) (.list ds)
  | tup {a : Addr} {xs : List V} {ds : List PyData} : H a = some (.tup xs) → DpAll K H xs ds → Dp K H (.ref a) (.tuple ds)
inductive DpAll (K : PySem.W.Frag) (H : Hp) : List V → List PyData → Prop
  | nil : DpAll K H [] []
  | cons {v : V} {vs : List V} {d : PyData} {ds : List PyData} : Dp K H v d → DpAll K H vs ds → DpAll K H (v :: vs) (d :: ds)
end
mutual
theorem dpTo {K : PySem.W.Frag} {H : Hp} : ∀ {v : V} {x : PyData}, Dp K H v x → L2.Dp K H v x
  | _, _, .non => .non
  | _, _, .bl b => .bl b
  | _, _, .int i => .int i
  | _, _, .str x => .str x
  | _, _, .lst h t => .lst (SqL.of h) (dpAllTo t)
  | _, _, .tup h t => .tup (SqT.of h) (dpAllTo t)
theorem dpAllTo {K : PySem.W.Frag} {H : Hp} : ∀ {v : List V} {x : List PyData}, DpAll K H v x → L2.DpAll K H v x
  | _, _, .nil => .nil
  | _, _, .cons h t => .cons (dpTo h) (dpAllTo t)
end
/-- a value with what it owns; gL, gT: a list, a tuple of another's, to be looked at -/
inductive O where
  | d (x : PyData)
  | gL (ds : List PyData)
  | gT (ds : List PyData)
  | lst (xs : List O)
  | tup (xs : List O)
  | dK (kvs : List (Key × O))
  | dT (kvs : List (List Key × O))
  | ins (c : Str) (fs : List (Str × O))

mutual
inductive Ow (K : PySem.W.Frag) (mg : Str → Option Value) (Hf H : Hp) : V → O → List Addr → Prop
  | d {v : V} {x : PyData} : Dp K Hf v x → Ow K mg Hf H v (.d x) []
  | gL {a : Addr} {vs : List V} {ds : List PyData} : SqL K Hf a vs → DpAll K Hf vs ds → Ow K mg Hf H (.ref a) (.gL ds) []
  | gT {a : Addr} {vs : List V} {ds : List PyData} : SqT K Hf a vs → DpAll K Hf vs ds → Ow K mg Hf H (.ref a) (.gT ds) []
  | lst {a : Addr} {vs : List V} {os : List O} {as : List Addr} : H a = some (.lst vs) → OwL K mg Hf H vs os as → Ow K mg Hf H (.ref a) (.lst os) (a :: as)
  | tup {a : Addr} {vs : List V} {os : List O} {as : List Addr} : H a = some (.tup vs) → OwL K mg Hf H vs os as → Ow K mg Hf H (.ref a) (.tup os) (a :: as)
  | dK {a : Addr} {kvs : List (Key × V)} {kos : List (Key × O)} {as : List Addr} : H a = some (.dK kvs) → kvs.map (·.1) = kos.map (·.1) → OwL K mg Hf H (kvs.map (·.2)) (kos.map (·.2)) as → Ow K mg Hf H (.ref a) (.dK kos) (a :: as)
  | dT {a : Addr} {kvs : List (List Key × V)} {kos : List (List Key × O)} {as : List Addr} : H a = some (.dT kvs) → kvs.map (·.1) = kos.map (·.1) → OwL K mg Hf H (kvs.map (·.2)) (kos.map (·.2)) as → Ow K mg Hf H (.ref a) (.dT kos) (a :: as)
  | ins {a C dx : Addr} {c : Str} {fvs : List (Str × V)} {fos : List (Str × O)} {as : List Addr} : H a = some (.ins C dx fvs) → mg c = some (.ref C) → fvs.map (·.1) = fos.map (·.1) → OwL K mg Hf H (fvs.map (·.2)) (fos.map (·.2)) as → Ow K mg Hf H (.ref a) (.ins c fos) (a :: as)
inductive OwL (K : PySem.W.Frag) (mg : Str → Option Value) (Hf H : Hp) : List V → List O → List Addr → Prop
  | nil : OwL K mg Hf H [] [] []
  | cons {v : V} {o : O} {as bs : List Addr} {vs : List V} {os : List O} : Ow K mg Hf H v o as → OwL K mg Hf H vs os bs → OwL K mg Hf H (v :: vs) (o :: os) (as ++ bs)
end

section
variable {K : PySem.W.Frag} {mg : Str → Option Value} {Hf Hf' H H' : Hp}

theorem sameT {a : Addr} {xs : List V} (e : Same H H') (h : SqT K H a xs) : SqT K H' a xs := by
  rcases h with (h | ⟨o, h⟩) | h
  · exact .inl (.inl (e _ _ h))
  · exact .inl (.inr ⟨o, e _ _ h⟩)
  · exact .inr h
mutual
theorem dpMono (e : Same H H') : ∀ {v : V} {x : PyData}, Dp K H v x → Dp K H' v x
  | _, _, .non => .non
  | _, _, .bl b => .bl b
  | _, _, .int i => .int i
  | _, _, .str x => .str x
  | _, _, .lst h t => .lst (e _ _ h) (dpAllMono e t)
  | _, _, .tup h t => .tup (e _ _ h) (dpAllMono e t)
theorem dpAllMono (e : Same H H') : ∀ {v : List V} {x : List PyData}, DpAll K H v x → DpAll K H' v x
  | _, _, .nil => .nil
  | _, _, .cons h t => .cons (dpMono e h) (dpAllMono e t)
end
mutual
theorem owThere : ∀ {v : V} {o : O} {as : List Addr}, Ow K mg Hf H v o as → ∀ a ∈ as, ∃ u, H a = some u
  | _, _, _, .d _ => fun a h => nomatch h
  | _, _, _, .gL _ _ => fun a h => nomatch h
  | _, _, _, .gT _ _ => fun a h => nomatch h
  | _, _, _, .lst h t => fun a m => by
    rcases List.mem_cons.mp m with e | m
    · exact ⟨_, e ▸ h⟩
    · exact owLThere t a m
  | _, _, _, .tup h t => fun a m => by
    rcases List.mem_cons.mp m with e | m
    · exact ⟨_, e ▸ h⟩
    · exact owLThere t a m
  | _, _, _, .dK h _ t => fun a m => by
    rcases List.mem_cons.mp m with e | m
    · exact ⟨_, e ▸ h⟩
    · exact owLThere t a m
  | _, _, _, .dT h _ t => fun a m => by
    rcases List.mem_cons.mp m with e | m
    · exact ⟨_, e ▸ h⟩
    · exact owLThere t a m
  | _, _, _, .ins h _ _ t => fun a m => by
    rcases List.mem_cons.mp m with e | m
    · exact ⟨_, e ▸ h⟩
    · exact owLThere t a m
theorem owLThere : ∀ {v : List V} {o : List O} {as : List Addr}, OwL K mg Hf H v o as → ∀ a ∈ as, ∃ u, H a = some u
  | _, _, _, .nil => fun a h => nomatch h
  | _, _, _, .cons h t => fun a m => by
    rcases List.mem_append.mp m with m | m
    · exact owThere h a m
    · exact owLThere t a m
end
mutual
theorem owMono (e : Same Hf Hf') : ∀ {v : V} {o : O} {as : List Addr}, Ow K mg Hf H v o as → (∀ a ∈ as, H' a = H a) → Ow K mg Hf' H' v o as
  | _, _, _, .d h, _ => .d (dpMono e h)
  | _, _, _, .gL h t, _ => .gL (e.seq h) (dpAllMono e t)
  | _, _, _, .gT h t, _ => .gT (sameT e h) (dpAllMono e t)
  | _, _, _, .lst h t, f => .lst ((f _ List.mem_cons_self).trans h) (owLMono e t fun a m => f a (List.mem_cons_of_mem _ m))
  | _, _, _, .tup h t, f => .tup ((f _ List.mem_cons_self).trans h) (owLMono e t fun a m => f a (List.mem_cons_of_mem _ m))
  | _, _, _, .dK h k t, f => .dK ((f _ List.mem_cons_self).trans h) k (owLMono e t fun a m => f a (List.mem_cons_of_mem _ m))
  | _, _, _, .dT h k t, f => .dT ((f _ List.mem_cons_self).trans h) k (owLMono e t fun a m => f a (List.mem_cons_of_mem _ m))
  | _, _, _, .ins h c k t, f => .ins ((f _ List.mem_cons_self).trans h) c k (owLMono e t fun a m => f a (List.mem_cons_of_mem _ m))
theorem owLMono (e : Same Hf Hf') : ∀ {v : List V} {o : List O} {as : List Addr}, OwL K mg Hf H v o as → (∀ a ∈ as, H' a = H a) → OwL K mg Hf' H' v o as
  | _, _, _, .nil, _ => .nil
  | _, _, _, .cons h t, f => .cons (owMono e h fun a m => f a (List.mem_append_left _ m)) (owLMono e t fun a m => f a (List.mem_append_right _ m))
end
theorem owLLen : ∀ {vs : List V} {os : List O} {as : List Addr}, OwL K mg Hf H vs os as → vs.length = os.length
  | _, _, _, .nil => rfl
  | _, _, _, .cons _ t => by simp [owLLen t]
theorem owLApp : ∀ {vs : List V} {os : List O} {as : List Addr} {vs' : List V} {os' : List O} {as' : List Addr}, OwL K mg Hf H vs os as → OwL K mg Hf H vs' os' as' → OwL K mg Hf H (vs ++ vs') (os ++ os') (as ++ as')
  | _, _, _, _, _, _, .nil, s => s
  | _, _, _, _, _, _, .cons h t, s => by rw [List.append_assoc]; exact .cons h (owLApp t s)
theorem owLSplit : ∀ {vs : List V} {os : List O} {as : List Addr} {vs' : List V} {os' : List O}, vs.length = os.length → OwL K mg Hf H (vs ++ vs') (os ++ os') as → ∃ a1 a2, as = a1 ++ a2 ∧ OwL K mg Hf H vs os a1 ∧ OwL K mg Hf H vs' os' a2
  | [], [], as, vs', os', _, h => ⟨[], as, rfl, .nil, h⟩
  | v :: vs, o :: os, _, vs', os', e, h => by
    cases h with
    | cons h t =>
      obtain ⟨a1, a2, rfl, h1, h2⟩ := owLSplit (by simpa using e) t
      exact ⟨_ ++ a1, a2, by rw [List.append_assoc], .cons h h1, h2⟩
  | [], _ :: _, _, _, _, e, _ => by simp at e
  | _ :: _, [], _, _, _, e, _ => by simp at e

/-! freezing -/
def frz (Hf H : Hp) (as : List Addr) : Hp := fun b => if b ∈ as then H b else Hf b
theorem frzSame (s : Same Hf H) (as : List Addr) : Same Hf (frz Hf H as) := fun b o e => by
  unfold frz
  by_cases h : b ∈ as
  · rw [if_pos h]; exact s b o e
  · rw [if_neg h]; exact e
theorem frzIn (s : Same Hf H) (as : List Addr) : Same (frz Hf H as) H := fun b o e => by
  unfold frz at e
  by_cases h : b ∈ as
  · rw [if_pos h] at e; exact e
  · rw [if_neg h] at e; exact s b o e
theorem frzMono (s : Same Hf H) {as bs : List Addr} (m : ∀ a ∈ as, a ∈ bs) : Same (frz Hf H as) (frz Hf H bs) := fun b o e => by
  unfold frz at e ⊢
  by_cases h : b ∈ as
  · rw [if_pos h] at e; rw [if_pos (m b h)]; exact e
  · rw [if_neg h] at e
    by_cases h' : b ∈ bs
    · rw [if_pos h']; exact s b o e
    · rw [if_neg h']; exact e
mutual
def O.fz : O → Option PyData
  | .d x => some x
  | .lst xs => match O.fzL xs with | some ds => some (.list ds) | none => none
  | .tup xs => match O.fzL xs with | some ds => some (.tuple ds) | none => none
  | _ => none
def O.fzL : List O → Option (List PyData)
  | [] => some []
  | x :: xs => match O.fz x, O.fzL xs with | some y, some ys => some (y :: ys) | _, _ => none
end
mutual
theorem owFz (s : Same Hf H) : ∀ {v : V} {o : O} {as : List Addr} {x : PyData}, Ow K mg Hf H v o as → o.fz = some x → Dp K (frz Hf H as) v x
  | _, _, _, x, .d h, e => by
    simp only [O.fz, Option.some.injEq] at e
    subst e
    exact dpMono (frzSame s _) h
  | _, _, _, x, .lst (os := os) (as := as) h t, e => by
    simp only [O.fz] at e
    cases q : O.fzL os with
    | none => rw [q] at e; cases e
    | some ds =>
      rw [q] at e
      cases e
      refine .lst ?_ (dpAllMono (frzMono s fun a m => List.mem_cons_of_mem _ m) (owLFz s t q))
      unfold frz
      rw [if_pos List.mem_cons_self]
      exact h
  | _, _, _, x, .tup (os := os) (as := as) h t, e => by
    simp only [O.fz] at e
    cases q : O.fzL os with
    | none => rw [q] at e; cases e
    | some ds =>
      rw [q] at e
      cases e
      refine .tup ?_ (dpAllMono (frzMono s fun a m => List.mem_cons_of_mem _ m) (owLFz s t q))
      unfold frz
      rw [if_pos List.mem_cons_self]
      exact h
  | _, _, _, x, .gL h t, e => by simp only [O.fz] at e; cases e
  | _, _, _, x, .gT h t, e => by simp only [O.fz] at e; cases e
  | _, _, _, x, .dK h k t, e => by simp only [O.fz] at e; cases e
  | _, _, _, x, .dT h k t, e => by simp only [O.fz] at e; cases e
  | _, _, _, x, .ins h c k t, e => by simp only [O.fz] at e; cases e
theorem owLFz (s : Same Hf H) : ∀ {v : List V} {o : List O} {as : List Addr} {x : List PyData}, OwL K mg Hf H v o as → O.fzL o = some x → DpAll K (frz Hf H as) v x
  | _, _, _, x, .nil, e => by
    simp only [O.fzL, Option.some.injEq] at e
    subst e
    exact .nil
  | _, _, _, x, .cons (o := o) (os := os) (as := as) (bs := bs) h t, e => by
    simp only [O.fzL] at e
    cases q1 : o.fz with
    | none => rw [q1] at e; simp at e
    | some d =>
      cases q2 : O.fzL os with
      | none => rw [q1, q2] at e; simp at e
      | some ds =>
        rw [q1, q2] at e
        cases e
        exact .cons (dpMono (frzMono s fun a m => List.mem_append_left _ m) (owFz s h q1)) (dpAllMono (frzMono s fun a m => List.mem_append_right _ m) (owLFz s t q2))
end
end

/-! ### the state -/
abbrev Roots := List (V × O)
structure Rel (K : PySem.W.Frag) (mg : Str → Option Value) (H : Hp) (Ex : List (Addr × HO)) (rs ws : Roots) : Prop where
  ex : ∃ (Hf : Hp) (as : List Addr), Same Hf H ∧ (∀ e ∈ Ex, H e.1 = some e.2) ∧ OwL K mg Hf H (rs.map (·.1)) (rs.map (·.2)) as ∧ (Ex.map (·.1) ++ as).Nodup ∧ (∀ a ∈ Ex.map (·.1) ++ as, Hf a = none) ∧ ∀ p ∈ ws, ∃ bs, Ow K mg Hf H p.1 p.2 bs

section
variable {K : PySem.W.Frag} {mg : Str → Option Value} {H H' : Hp} {Ex : List (Addr × HO)} {rs rs' ws ws' : Roots}

theorem owLPerm {Hf : Hp} {l l' : Roots} (p : l.Perm l') : ∀ {as : List Addr}, OwL K mg Hf H (l.map (·.1)) (l.map (·.2)) as → ∃ as', OwL K mg Hf H (l'.map (·.1)) (l'.map (·.2)) as' ∧ as.Perm as' := by
  induction p with
  | nil => intro as h; exact ⟨as, h, .refl _⟩
  | cons x p ih =>
    intro as h
    cases h with
    | cons h t =>
      obtain ⟨as', t', q⟩ := ih t
      exact ⟨_, .cons h t', q.append_left _⟩
  | swap x y l =>
    intro as h
    cases h with
    | cons h t =>
      cases t with
      | cons h2 t2 =>
        refine ⟨_, .cons h2 (.cons h t2), ?_⟩
        rw [← List.append_assoc, ← List.append_assoc]
        exact List.perm_append_comm.append_right _
  | trans p q ih1 ih2 =>
    intro as h
    obtain ⟨a1, h1, q1⟩ := ih1 h
    obtain ⟨a2, h2, q2⟩ := ih2 h1
    exact ⟨a2, h2, q1.trans q2⟩
theorem Rel.perm (r : Rel K mg H Ex rs ws) (p : rs.Perm rs') : Rel K mg H Ex rs' ws := by
  obtain ⟨Hf, as, s, he, ho, nd, hn, hw⟩ := r.ex
  obtain ⟨as', ho', q⟩ := owLPerm p ho
  have q2 : (Ex.map (·.1) ++ as).Perm (Ex.map (·.1) ++ as') := q.append_left _
  exact ⟨Hf, as', s, he, ho', q2.nodup_iff.mp nd, fun a m => hn a (q2.mem_iff.mpr m), hw⟩
theorem Rel.views (r : Rel K mg H Ex rs ws) (m : ∀ p ∈ ws', p ∈ ws) : Rel K mg H Ex rs ws' := by
  obtain ⟨Hf, as, s, he, ho, nd, hn, hw⟩ := r.ex
  exact ⟨Hf, as, s, he, ho, nd, hn, fun p q => hw p (m p q)⟩
theorem Rel.noviews (r : Rel K mg H Ex rs ws) : Rel K mg H Ex rs [] := r.views fun _ h => nomatch h
/-- a root is seen -/
theorem Rel.see {p : V × O} (r : Rel K mg H Ex (p :: rs) ws) : Rel K mg H Ex (p :: rs) (p :: ws) := by
  obtain ⟨Hf, as, s, he, ho, nd, hn, hw⟩ := r.ex
  refine ⟨Hf, as, s, he, ho, nd, hn, fun q m => ?_⟩
  rcases List.mem_cons.mp m with e | m
  · subst e
    cases ho with
    | cons h t => exact ⟨_, h⟩
  · exact hw q m
theorem Rel.drop {p : V × O} (r : Rel K mg H Ex (p :: rs) ws) : Rel K mg H Ex rs ws := by
  obtain ⟨Hf, as, s, he, ho, nd, hn, hw⟩ := r.ex
  cases ho with
  | cons h t =>
    rename_i a1 a2
    have sub : (Ex.map (·.1) ++ a2).Sublist (Ex.map (·.1) ++ (a1 ++ a2)) := (List.sublist_append_right a1 a2).append_left _
    exact ⟨Hf, a2, s, he, t, nd.sublist sub, fun a m => hn a (sub.subset m), hw⟩
theorem Rel.toView {p : V × O} (r : Rel K mg H Ex (p :: rs) ws) : Rel K mg H Ex rs (p :: ws) := r.see.drop
theorem Rel.dropL (l : Roots) (r : Rel K mg H Ex (l ++ rs) ws) : Rel K mg H Ex rs ws := by
  induction l with
  | nil => exact r
  | cons p l ih => exact ih r.drop
/-- data may be had twice -/
theorem Rel.dup {v : V} {x : PyData} (r : Rel K mg H Ex ((v, .d x) :: rs) ws) : Rel K mg H Ex ((v, .d x) :: (v, .d x) :: rs) ws := by
  obtain ⟨Hf, as, s, he, ho, nd, hn, hw⟩ := r.ex
  cases ho with
  | cons h t =>
    cases h with
    | d h => exact ⟨Hf, _, s, he, .cons (.d h) (.cons (.d h) t), nd, hn, hw⟩
/-- seen data is had -/
theorem Rel.ofView {v : V} {x : PyData} (r : Rel K mg H Ex rs ((v, .d x) :: ws)) : Rel K mg H Ex ((v, .d x) :: rs) ((v, .d x) :: ws) := by
  obtain ⟨Hf, as, s, he, ho, nd, hn, hw⟩ := r.ex
  obtain ⟨bs, h⟩ := hw _ List.mem_cons_self
  cases h with
  | d h => exact ⟨Hf, as, s, he, .cons (.d h) ho, nd, hn, hw⟩
/-- all that stood stands -/
theorem Rel.same (r : Rel K mg H Ex rs ws) (e : Same H H') : Rel K mg H' Ex rs ws := by
  obtain ⟨Hf, as, s, he, ho, nd, hn, hw⟩ := r.ex
  have st : ∀ {a : Addr}, (∃ u, H a = some u) → H' a = H a := fun ⟨u, q⟩ => (e _ _ q).trans q.symm
  refine ⟨Hf, as, s.trans e, fun p m => e _ _ (he p m), owLMono (Same.refl _) ho fun a m => st (owLThere ho a m), nd, hn, fun p m => ?_⟩
  obtain ⟨bs, h⟩ := hw p m
  exact ⟨bs, owMono (Same.refl _) h fun a m => st (owThere h a m)⟩
theorem sameNew {p : Addr} (h : H p = none) (o : HO) : Same H (upd H p o) := fun b u q => by rw [upd_ne (ne_of_none q h)]; exact q
/-- a new object -/
theorem Rel.new {p : Addr} (o : HO) (r : Rel K mg H Ex rs ws) (h : H p = none) : Rel K mg (upd H p o) ((p, o) :: Ex) rs ws := by
  obtain ⟨Hf, as, s, he, ho, nd, hn, hw⟩ := (r.same (sameNew h o)).ex
  obtain ⟨Hf0, as0, s0, he0, ho0, nd0, hn0, hw0⟩ := r.ex
  have st : ∀ {a : Addr}, (∃ u, H a = some u) → (upd H p o) a = H a := fun ⟨u, q⟩ => (sameNew h o _ _ q).trans q.symm
  have pe : ∀ {a : Addr}, (∃ u, H a = some u) → a ≠ p := fun ⟨u, q⟩ z => by rw [z, h] at q; cases q
  refine ⟨Hf0, as0, s0.trans (sameNew h o), fun e m => ?_, owLMono (Same.refl _) ho0 fun a m => st (owLThere ho0 a m), ?_, fun a m => ?_, fun p m => ?_⟩
  · rcases List.mem_cons.mp m with e' | m
    · subst e'; exact upd_same
    · exact sameNew h o _ _ (he0 e m)
  · refine List.nodup_cons.mpr ⟨fun m => ?_, nd0⟩
    rcases List.mem_append.mp m with m | m
    · obtain ⟨e, me, q⟩ := List.mem_map.mp m
      exact pe ⟨_, he0 e me⟩ q
    · exact pe (owLThere ho0 _ m) rfl
  · rcases List.mem_cons.mp m with e' | m
    · subst e'; exact s0.free h
    · exact hn0 a m
  · obtain ⟨bs, h⟩ := hw0 p m
    exact ⟨bs, owMono (Same.refl _) h fun a m => st (owThere h a m)⟩
/-- an object of ours is written -/
theorem Rel.write {p : Addr} {o : HO} (o' : HO) (r : Rel K mg H ((p, o) :: Ex) rs ws) : Rel K mg (upd H p o') ((p, o') :: Ex) rs [] := by
  obtain ⟨Hf, as, s, he, ho, nd, hn, hw⟩ := r.ex
  have nd' := List.nodup_cons.mp nd
  have hp : Hf p = none := hn p List.mem_cons_self
  refine ⟨Hf, as, fun b u q => ?_, fun e m => ?_, owLMono (Same.refl _) ho fun a m => upd_ne fun z => nd'.1 (z ▸ List.mem_append_right _ m), nd, hn, fun _ h => nomatch h⟩
  · rw [upd_ne (ne_of_none q hp)]; exact s b u q
  · rcases List.mem_cons.mp m with e' | m
    · subst e'; exact upd_same
    · rw [upd_ne fun z => nd'.1 (List.mem_append_left _ (List.mem_map.mpr ⟨e, m, z⟩))]
      exact he e (List.mem_cons_of_mem _ m)
theorem zipMap {α β : Type} : ∀ {l : List α} {m : List β}, l.length = m.length → (l.zip m).map (·.1) = l ∧ (l.zip m).map (·.2) = m
  | [], [], _ => ⟨rfl, rfl⟩
  | a :: l, b :: m, h => by
    obtain ⟨h1, h2⟩ := zipMap (l := l) (m := m) (by simpa using h)
    exact ⟨by simp [h1], by simp [h2]⟩
  | [], _ :: _, h => by simp at h
  | _ :: _, [], h => by simp at h
theorem nodMid {A : List Addr} {a : Addr} {B : List Addr} : (A ++ a :: B).Nodup ↔ (a :: A ++ B).Nodup := (List.perm_middle).nodup_iff
/-- what is to be opened and shut: an owned object and what it holds -/
inductive Opn (mg : Str → Option Value) : O → HO → List V → List O → Prop
  | lst {vs : List V} {os : List O} : Opn mg (.lst os) (.lst vs) vs os
  | tup {vs : List V} {os : List O} : Opn mg (.tup os) (.tup vs) vs os
  | dK {kvs : List (Key × V)} {kos : List (Key × O)} : kvs.map (·.1) = kos.map (·.1) → Opn mg (.dK kos) (.dK kvs) (kvs.map (·.2)) (kos.map (·.2))
  | dT {kvs : List (List Key × V)} {kos : List (List Key × O)} : kvs.map (·.1) = kos.map (·.1) → Opn mg (.dT kos) (.dT kvs) (kvs.map (·.2)) (kos.map (·.2))
  | ins {C dx : Addr} {c : Str} {fvs : List (Str × V)} {fos : List (Str × O)} : mg c = some (.ref C) → fvs.map (·.1) = fos.map (·.1) → Opn mg (.ins c fos) (.ins C dx fvs) (fvs.map (·.2)) (fos.map (·.2))
def O.isG : O → Bool
  | .d _ => true
  | .gL _ => true
  | .gT _ => true
  | _ => false
theorem owOpn {Hf : Hp} {v : V} {o : O} {as : List Addr} (h : Ow K mg Hf H v o as) (hn : o.isG = false) : ∃ a bs ho vs os, v = .ref a ∧ as = a :: bs ∧ H a = some ho ∧ Opn mg o ho vs os ∧ OwL K mg Hf H vs os bs := by
  cases h with
  | d _ => cases hn
  | gL _ _ => cases hn
  | gT _ _ => cases hn
  | lst h t => exact ⟨_, _, _, _, _, rfl, rfl, h, .lst, t⟩
  | tup h t => exact ⟨_, _, _, _, _, rfl, rfl, h, .tup, t⟩
  | dK h k t => exact ⟨_, _, _, _, _, rfl, rfl, h, .dK k, t⟩
  | dT h k t => exact ⟨_, _, _, _, _, rfl, rfl, h, .dT k, t⟩
  | ins h c k t => exact ⟨_, _, _, _, _, rfl, rfl, h, .ins c k, t⟩
theorem Opn.ow {Hf : Hp} {a : Addr} {o : O} {ho : HO} {vs : List V} {os : List O} {bs : List Addr} (p : Opn mg o ho vs os) (h : H a = some ho) (t : OwL K mg Hf H vs os bs) : Ow K mg Hf H (.ref a) o (a :: bs) := by
  cases p with
  | lst => exact .lst h t
  | tup => exact .tup h t
  | dK k => exact .dK h k t
  | dT k => exact .dT h k t
  | ins c k => exact .ins h c k t
theorem Opn.len {o : O} {ho : HO} {vs : List V} {os : List O} (p : Opn mg o ho vs os) (l : vs.length = os.length) : (vs.zip os).map (·.1) = vs ∧ (vs.zip os).map (·.2) = os := zipMap l
theorem Rel.opn {v : V} {o : O} (r : Rel K mg H Ex ((v, o) :: rs) ws) (hn : o.isG = false) : ∃ a ho vs os, v = .ref a ∧ H a = some ho ∧ Opn mg o ho vs os ∧ vs.length = os.length ∧ Rel K mg H ((a, ho) :: Ex) (vs.zip os ++ rs) ws := by
  obtain ⟨Hf, as, s, he, ho, nd, hnn, hw⟩ := r.ex
  cases ho with
  | cons h t =>
    rename_i cs
    obtain ⟨a, bs, hob, vs, os, e1, e2, e3, p, q⟩ := owOpn h hn
    subst e2
    have hl := owLLen q
    obtain ⟨z1, z2⟩ := zipMap hl
    refine ⟨a, hob, vs, os, e1, e3, p, hl, ⟨Hf, bs ++ cs, s, fun e m => ?_, ?_, ?_, fun b m => hnn b ?_, hw⟩⟩
    · rcases List.mem_cons.mp m with e' | m
      · subst e'; exact e3
      · exact he e m
    · rw [List.map_append, List.map_append, z1, z2]
      exact owLApp q t
    · rw [List.cons_append] at nd
      exact nodMid.mp nd
    · rw [List.cons_append]
      exact (List.perm_middle (a := a)).mem_iff.mpr m
theorem Rel.shut {a : Addr} {o : O} {ho : HO} {vs : List V} {os : List O} (r : Rel K mg H ((a, ho) :: Ex) (vs.zip os ++ rs) ws) (p : Opn mg o ho vs os) (hl : vs.length = os.length) : Rel K mg H Ex ((.ref a, o) :: rs) ws := by
  obtain ⟨Hf, as, s, he, hob, nd, hnn, hw⟩ := r.ex
  obtain ⟨z1, z2⟩ := zipMap hl
  rw [List.map_append, List.map_append, z1, z2] at hob
  obtain ⟨a1, a2, rfl, h1, h2⟩ := owLSplit hl hob
  refine ⟨Hf, (a :: a1) ++ a2, s, fun e m => he e (List.mem_cons_of_mem _ m), .cons (p.ow (he _ List.mem_cons_self) h1) h2, ?_, fun b m => hnn b ?_, hw⟩
  · rw [List.cons_append]
    exact nodMid.mpr nd
  · rw [List.cons_append] at m
    exact (List.perm_middle (a := a)).mem_iff.mp m
/-- an owned value becomes data -/
theorem Rel.fz {v : V} {o : O} {x : PyData} (r : Rel K mg H Ex ((v, o) :: rs) ws) (e : o.fz = some x) : Rel K mg H Ex ((v, .d x) :: rs) ws := by
  obtain ⟨Hf, as, s, he, hob, nd, hnn, hw⟩ := r.ex
  cases hob with
  | cons h t =>
    rename_i a1 a2
    have q := owFz s h e
    have sub : (Ex.map (·.1) ++ a2).Sublist (Ex.map (·.1) ++ (a1 ++ a2)) := (List.sublist_append_right a1 a2).append_left _
    have dj : ∀ a ∈ Ex.map (·.1) ++ a2, a ∉ a1 := fun a m m1 => by
      have hp : (Ex.map (·.1) ++ (a1 ++ a2)).Perm (a1 ++ (Ex.map (·.1) ++ a2)) := by
        rw [← List.append_assoc, ← List.append_assoc]
        exact List.perm_append_comm.append_right _
      have nd2 := hp.nodup_iff.mp nd
      exact (List.nodup_append.mp nd2).2.2 a m1 a m rfl
    refine ⟨frz Hf H a1, a2, frzIn s a1, he, .cons (as := []) (.d q) (owLMono (frzSame s a1) t fun a m => rfl), nd.sublist sub, fun a m => ?_, fun p m => ?_⟩
    · unfold frz
      rw [if_neg (dj a m)]
      exact hnn a (sub.subset m)
    · obtain ⟨bs, h⟩ := hw p m
      exact ⟨bs, owMono (frzSame s a1) h fun a m => rfl⟩
/-- plain data -/
theorem Rel.data {v : V} {x : PyData} (r : Rel K mg H Ex rs ws) (h : ∀ Hf, Dp K Hf v x) : Rel K mg H Ex ((v, .d x) :: rs) ws := by
  obtain ⟨Hf, as, s, he, hob, nd, hnn, hw⟩ := r.ex
  exact ⟨Hf, as, s, he, .cons (as := []) (.d (h Hf)) hob, nd, hnn, hw⟩
end
end Z

namespace Z
open PySem PySem.Spec L2

abbrev Gs := List (Option O)
structure Exn where
  c : Str
  fs : List (Str × V)
inductive Res (α : Type) where
  | ok (a : α) (e : Gs)
  | ex (x : Exn) (e : Gs)
  | bad
def M (α : Type) : Type := Gs → Res α
def M.ret {α : Type} (a : α) : M α := fun e => .ok a e
def M.bd {α β : Type} (m : M α) (f : α → M β) : M β := fun e => match m e with
  | .ok a e' => f a e'
  | .ex x e' => .ex x e'
  | .bad => .bad
instance : Monad M where
  pure := M.ret
  bind := M.bd
def M.no {α : Type} : M α := fun _ => .bad
def Wp {α : Type} (r : Res α) (A : α → Gs → Prop) (B : Exn → Gs → Prop) : Prop := match r with
  | .ok a e => A a e
  | .ex x e => B x e
  | .bad => False
theorem Wp.bd {α β : Type} {m : M α} {f : α → M β} {e : Gs} {A : β → Gs → Prop} {B : Exn → Gs → Prop} (h : Wp (M.bd m f e) A B) : Wp (m e) (fun a e' => Wp (f a e') A B) B := by
  unfold M.bd at h
  unfold Wp at h ⊢
  cases q : m e with
  | ok a e' => rw [q] at h; exact h
  | ex x e' => rw [q] at h; exact h
  | bad => rw [q] at h; exact h
theorem Wp.imp {α : Type} {r : Res α} {A A' : α → Gs → Prop} {B B' : Exn → Gs → Prop} (h : Wp r A B) (ha : ∀ a e, A a e → A' a e) (hb : ∀ x e, B x e → B' x e) : Wp r A' B' := by
  unfold Wp at h ⊢
  cases r with
  | ok a e => exact ha _ _ h
  | ex x e => exact hb _ _ h
  | bad => exact h

def roots : St → Gs → Roots
  | some v :: σ, some o :: g => (v, o) :: roots σ g
  | _ :: σ, _ :: g => roots σ g
  | _, _ => []
structure Fit (σ : St) (g : Gs) : Prop where
  len : σ.length = g.length
  at_ : ∀ (i : Nat) (o : O), g[i]? = some (some o) → ∃ v : V, σ[i]? = some (some v)
theorem Fit.clr {σ : St} {g : Gs} (f : Fit σ g) (i : Nat) : Fit σ (g.set i none) := ⟨by rw [List.length_set]; exact f.len, fun j o h => by
  by_cases e : i = j
  · subst e
    rw [List.getElem?_set] at h
    simp at h
  · rw [List.getElem?_set_ne e] at h
    exact f.at_ j o h⟩
theorem Fit.set {σ : St} {g : Gs} (f : Fit σ g) (i : Nat) (v : V) (o : Option O) : Fit (σ.set i (some v)) (g.set i o) := ⟨by rw [List.length_set, List.length_set]; exact f.len, fun j o' h => by
  by_cases e : i = j
  · subst e
    have hl : i < σ.length := by
      rw [f.len]
      rw [List.getElem?_set] at h
      by_cases q : i < g.length
      · exact q
      · simp [q] at h
    exact ⟨v, List.getElem?_set_self hl⟩
  · rw [List.getElem?_set_ne e] at h
    rw [List.getElem?_set_ne e]
    exact f.at_ j o' h⟩
theorem rootsGet : ∀ {σ : St} {g : Gs} {i : Nat} {v : V} {o : O}, σ[i]? = some (some v) → g[i]? = some (some o) → (roots σ g).Perm ((v, o) :: roots σ (g.set i none))
  | [], _, _, _, _, h, _ => by simp at h
  | _ :: _, [], _, _, _, _, h => by simp at h
  | s :: σ, p :: g, 0, v, o, h1, h2 => by
    simp only [List.getElem?_cons_zero, Option.some.injEq] at h1 h2
    subst h1; subst h2
    simp only [List.set_cons_zero, roots]
    exact .refl _
  | s :: σ, p :: g, i + 1, v, o, h1, h2 => by
    simp only [List.getElem?_cons_succ] at h1 h2
    have ih := rootsGet h1 h2
    simp only [List.set_cons_succ]
    cases s with
    | none => simpa only [roots] using ih
    | some w =>
      cases p with
      | none => simpa only [roots] using ih
      | some q =>
        simp only [roots]
        exact (ih.cons _).trans (.swap _ _ _)
theorem rootsSet : ∀ {σ : St} {g : Gs} {i : Nat} {v : V} {o : O}, i < σ.length → i < g.length → (roots (σ.set i (some v)) (g.set i (some o))).Perm ((v, o) :: roots σ (g.set i none))
  | [], _, _, _, _, h, _ => by simp at h
  | _ :: _, [], _, _, _, _, h => by simp at h
  | s :: σ, p :: g, 0, v, o, h1, h2 => by
    simp only [List.set_cons_zero]
    cases s <;> (simp only [roots]; exact .refl _)
  | s :: σ, p :: g, i + 1, v, o, h1, h2 => by
    have ih := rootsSet (σ := σ) (g := g) (i := i) (v := v) (o := o) (by simpa using h1) (by simpa using h2)
    simp only [List.set_cons_succ]
    cases s with
    | none => simpa only [roots] using ih
    | some w =>
      cases p with
      | none => simpa only [roots] using ih
      | some q =>
        simp only [roots]
        exact (ih.cons _).trans (.swap _ _ _)
theorem rootsNone : ∀ {σ : St} {g : Gs} {i : Nat} {x : Option V}, roots (σ.set i x) (g.set i none) = roots σ (g.set i none)
  | [], _, _, _ => by simp
  | s :: σ, [], i, x => by cases i <;> simp [roots]
  | s :: σ, p :: g, 0, x => by
    simp only [List.set_cons_zero]
    cases s <;> cases x <;> simp [roots]
  | s :: σ, p :: g, i + 1, x => by
    have ih := rootsNone (σ := σ) (g := g) (i := i) (x := x)
    simp only [List.set_cons_succ]
    cases s with
    | none => simpa only [roots] using ih
    | some w => cases p <;> simp only [roots, ih]
theorem setNone {g : Gs} {i : Nat} (h : ∀ o, g[i]? ≠ some (some o)) : g.set i none = g := by
  apply List.ext_getElem?
  intro j
  by_cases e : i = j
  · subst e
    rw [List.getElem?_set]
    by_cases q : i < g.length
    · simp only [if_true, q]
      cases z : g[i]? with
      | none => rw [List.getElem?_eq_none_iff] at z; omega
      | some y =>
        cases y with
        | none => rfl
        | some o => exact absurd z (h o)
    · simp only [if_true, q, if_false]
      exact (List.getElem?_eq_none (by omega)).symm
  · rw [List.getElem?_set_ne e]

section
variable {K : PySem.W.Frag} {mg : Str → Option Value} {H H' : Hp} {Ex : List (Addr × HO)} {T ws : Roots} {σ : St} {g : Gs}
theorem Rel.clr (r : Rel K mg H Ex (roots σ g ++ T) ws) (f : Fit σ g) (i : Nat) : Rel K mg H Ex (roots σ (g.set i none) ++ T) ws := by
  cases q : g[i]? with
  | none => rw [setNone (by intro o; rw [q]; simp)]; exact r
  | some y =>
    cases y with
    | none => rw [setNone (by intro o; rw [q]; simp)]; exact r
    | some o =>
      obtain ⟨v, hv⟩ := f.at_ i o q
      exact (r.perm ((rootsGet hv q).append_right T)).drop
theorem Rel.setAt {v : V} {o : O} {i : Nat} (r : Rel K mg H Ex (roots σ g ++ ((v, o) :: T)) ws) (f : Fit σ g) (hi : i < σ.length) : Rel K mg H Ex (roots (σ.set i (some v)) (g.set i (some o)) ++ T) ws := by
  have r1 := r.clr f i
  have r2 : Rel K mg H Ex ((v, o) :: (roots σ (g.set i none) ++ T)) ws := r1.perm List.perm_middle
  exact r2.perm ((rootsSet hi (f.len ▸ hi)).symm.append_right T)
end

def ExAt (mg : Str → Option Value) (cls : Value) (d : Option Addr) (H : Hp) (x : Exn) : Prop :=
  ∃ C, cls = .ref C ∧ mg x.c = some (.ref C) ∧ (x.fs = [] ∨ ∃ dd, d = some dd ∧ H dd = some (.xd x.fs))

structure At (X : Cx) (H : Hp) (Ex : List (Addr × HO)) (σ : St) (g : Gs) (T ws : Roots) : Prop where
  fit : Fit σ g
  rel : Rel X.K X.mg H Ex (roots σ g ++ T) ws
def Vs (pu : Bool) (ws : Roots) : Roots := if pu = true then ws else []
theorem vsSub {pu : Bool} {ws : Roots} : ∀ p ∈ Vs pu ws, p ∈ ws := fun p m => by
  unfold Vs at m
  split at m
  · exact m
  · cases m

section
variable {X : Cx} {H H' : Hp} {Ex : List (Addr × HO)} {σ : St} {g : Gs} {T T' ws ws' : Roots}
theorem At.views (a : At X H Ex σ g T ws) (m : ∀ p ∈ ws', p ∈ ws) : At X H Ex σ g T ws' := ⟨a.fit, a.rel.views m⟩
theorem At.same (a : At X H Ex σ g T ws) (e : Same H H') : At X H' Ex σ g T ws := ⟨a.fit, a.rel.same e⟩
theorem At.perm (a : At X H Ex σ g T ws) (p : T.Perm T') : At X H Ex σ g T' ws := ⟨a.fit, a.rel.perm (p.append_left _)⟩
theorem At.top {p : V × O} (a : At X H Ex σ g (p :: T) ws) : Rel X.K X.mg H Ex (p :: (roots σ g ++ T)) ws := a.rel.perm List.perm_middle
theorem At.ofTop {p : V × O} (f : Fit σ g) (r : Rel X.K X.mg H Ex (p :: (roots σ g ++ T)) ws) : At X H Ex σ g (p :: T) ws := ⟨f, r.perm List.perm_middle.symm⟩
theorem At.drop {p : V × O} (a : At X H Ex σ g (p :: T) ws) : At X H Ex σ g T ws := ⟨a.fit, a.top.drop⟩
theorem At.toView {p : V × O} (a : At X H Ex σ g (p :: T) ws) : At X H Ex σ g T (p :: ws) := ⟨a.fit, a.top.toView⟩
theorem At.data {v : V} {x : PyData} (a : At X H Ex σ g T ws) (h : ∀ Hf, Dp X.K Hf v x) : At X H Ex σ g ((v, .d x) :: T) ws := .ofTop a.fit (a.rel.data h)
end

/-! ### judgements -/
structure Ev (X : Cx) (W : WX) (pu : Bool) (e : Expr) (m : M O) : Prop where
  ex : ∃ t, PE X e t ∧ ∀ (σ : St) (H : Hp) (Q : VK) (g : Gs) (T : Roots) (Ex : List (Addr × HO)) (ws : Roots), At X H Ex σ g T ws →
    Wp (m g) (fun o g' => ∀ v H', (pu = true → g' = g ∧ Same H H') → At X H' Ex σ g' ((v, o) :: T) (Vs pu ws) → Q v H')
      (fun x g' => ∀ H' cls d, At X H' Ex σ g' T [] → ExAt X.mg cls d H' x → W cls d σ H') → t σ H Q
structure EvP (X : Cx) (W : WX) (pu : Bool) (e : Expr) (m : M O) : Prop where
  ex : ∃ t, PE X e t ∧ ∀ (σ : St) (H : Hp) (Q : VK) (g : Gs) (T : Roots) (Ex : List (Addr × HO)) (ws : Roots), At X H Ex σ g T ws →
    Wp (m g) (fun o g' => ∀ v H', (pu = true → g' = g ∧ Same H H') → At X H' Ex σ g' T ((v, o) :: Vs pu ws) → Q v H')
      (fun x g' => ∀ H' cls d, At X H' Ex σ g' T [] → ExAt X.mg cls d H' x → W cls d σ H') → t σ H Q
structure EvT (X : Cx) (W : WX) (pu : Bool) (e : Expr) (m : M Bool) : Prop where
  ex : ∃ t, PT X e t ∧ ∀ (σ : St) (H : Hp) (Q : Bool → Hp → Prop) (g : Gs) (T : Roots) (Ex : List (Addr × HO)) (ws : Roots), At X H Ex σ g T ws →
    Wp (m g) (fun b g' => ∀ H', (pu = true → g' = g ∧ Same H H') → At X H' Ex σ g' T (Vs pu ws) → Q b H')
      (fun x g' => ∀ H' cls d, At X H' Ex σ g' T [] → ExAt X.mg cls d H' x → W cls d σ H') → t σ H Q
/-- and, or: a test whatever its whole is -/
structure EvW (X : Cx) (W : WX) (pu : Bool) (e : Expr) (m : M Bool) : Prop where
  ex : ∃ t, PW X e t ∧ ∀ (σ : St) (H : Hp) (Q : Bool → Hp → Prop) (g : Gs) (T : Roots) (Ex : List (Addr × HO)) (ws : Roots), At X H Ex σ g T ws →
    Wp (m g) (fun b g' => ∀ H', (pu = true → g' = g ∧ Same H H') → At X H' Ex σ g' T (Vs pu ws) → Q b H')
      (fun x g' => ∀ H' cls d, At X H' Ex σ g' T [] → ExAt X.mg cls d H' x → W cls d σ H') → t σ H Q
theorem EvW.t {X : Cx} {W : WX} {pu : Bool} {e : Expr} {m : M Bool} (h : EvW X W pu e m) : EvT X W pu e m := by
  obtain ⟨t, h1, h2⟩ := h.ex
  exact ⟨t, h1.pt, h2⟩
def tAll : List TE → TA
  | [] => tNil
  | t :: ts => tCons t (tAll ts)
inductive PEs (X : Cx) : List Expr → List TE → Prop
  | nil : PEs X [] []
  | cons {e : Expr} {es : List Expr} {t : TE} {ts : List TE} : PE X e t → (starEach (e :: es) X.env = (false, eval e X.env) :: starEach es X.env) → PEs X es ts → PEs X (e :: es) (t :: ts)
theorem PEs.pa {X : Cx} : ∀ {es : List Expr} {ts : List TE}, PEs X es ts → PA X es (tAll ts)
  | _, _, .nil => pa_nil
  | _, _, .cons h s t => pa_cons h t.pa s
/-- operands, from the left, to be looked at -/
structure EvAs (X : Cx) (W : WX) (pu : Bool) (es : List Expr) (m : M (List O)) : Prop where
  ex : ∃ ts, PEs X es ts ∧ ∀ (σ : St) (H : Hp) (Q : List V → Hp → Prop) (g : Gs) (T : Roots) (Ex : List (Addr × HO)) (ws : Roots), At X H Ex σ g T ws →
    Wp (m g) (fun os g' => ∀ vs H', vs.length = os.length → (pu = true → g' = g ∧ Same H H') → At X H' Ex σ g' T (vs.zip os ++ Vs pu ws) → Q vs H')
      (fun x g' => ∀ H' cls d, At X H' Ex σ g' T [] → ExAt X.mg cls d H' x → W cls d σ H') → tAll ts σ H Q

section
variable {X : Cx} {W : WX} {pu pv : Bool} {e a b : Expr} {es : List Expr} {m ma mb : M O}
theorem vsVs {p q : Bool} {ws : Roots} : Vs q (Vs p ws) = Vs (p && q) ws := by cases p <;> cases q <;> rfl
/-- a value is looked at -/
theorem Ev.p (h : Ev X W pu e m) : EvP X W pu e m := by
  obtain ⟨t, h1, h2⟩ := h.ex
  exact ⟨t, h1, fun σ H Q g T Ex ws a w => h2 σ H Q g T Ex ws a (w.imp (fun o g' k v H' s a' => k v H' s a'.toView) fun _ _ k => k)⟩
theorem eas_nil : EvAs X W true [] (M.ret []) := ⟨[], .nil, fun σ H Q g T Ex ws a w => w [] H rfl (fun _ => ⟨rfl, Same.refl _⟩) a⟩
def consM (m : M O) (ms : M (List O)) : M (List O) := M.bd m fun o => M.bd ms fun os => M.ret (o :: os)
/-- the first one had while the others are reckoned -/
theorem eas_e {m : M O} {ms : M (List O)} (h : Ev X W pu e m) (hs : EvAs X W pv es ms) (st : starEach (e :: es) X.env = (false, eval e X.env) :: starEach es X.env := by rfl) : EvAs X W (pu && pv) (e :: es) (consM m ms) := by
  obtain ⟨t, h1, h2⟩ := h.ex
  obtain ⟨ts, g1, g2⟩ := hs.ex
  refine ⟨t :: ts, .cons h1 st g1, fun σ H Q g T Ex ws a w => ?_⟩
  refine h2 σ H _ g T Ex ws a (w.bd.imp (fun o g' k v H' s a' => ?_) fun _ _ k => k)
  refine g2 σ H' _ g' _ Ex _ a' (k.bd.imp (fun os g2 k vs H2 hl s2 a2 => ?_) fun x g2 k H2 cls d a2 => k H2 cls d a2.drop)
  refine k (v :: vs) H2 (by simp [hl]) (fun z => ?_) (a2.toView.views fun p m => ?_)
  · have z' := Bool.and_eq_true_iff.mp z
    obtain ⟨e1, e2⟩ := s z'.1
    obtain ⟨e3, e4⟩ := s2 z'.2
    exact ⟨e3.trans e1, e2.trans e4⟩
  · rw [vsVs]
    simpa using m
/-- the first one is looked at, the others change nothing -/
theorem eas_p {m : M O} {ms : M (List O)} (h : EvP X W pu e m) (hs : EvAs X W true es ms) (st : starEach (e :: es) X.env = (false, eval e X.env) :: starEach es X.env := by rfl) : EvAs X W pu (e :: es) (consM m ms) := by
  obtain ⟨t, h1, h2⟩ := h.ex
  obtain ⟨ts, g1, g2⟩ := hs.ex
  refine ⟨t :: ts, .cons h1 st g1, fun σ H Q g T Ex ws a w => ?_⟩
  refine h2 σ H _ g T Ex ws a (w.bd.imp (fun o g' k v H' s a' => ?_) fun _ _ k => k)
  refine g2 σ H' _ g' _ Ex _ a' (k.bd.imp (fun os g2 k vs H2 hl s2 a2 => ?_) fun x g2 k H2 cls d a2 => k H2 cls d a2)
  obtain ⟨e3, e4⟩ := s2 rfl
  refine k (v :: vs) H2 (by simp [hl]) (fun z => ?_) (a2.views fun p m => ?_)
  · obtain ⟨e1, e2⟩ := s z
    exact ⟨e3.trans e1, e2.trans e4⟩
  · simp only [Vs, if_true, List.zip_cons_cons, List.cons_append, List.mem_cons, List.mem_append] at m ⊢
    rcases m with m | m | m
    · exact .inr (.inl m)
    · exact .inl m
    · exact .inr (.inr m)

/-! ### operations by values -/
def PR (X : Cx) (r : List V → Hp → VK → Prop) (f : List O → Option O) : Prop :=
  ∀ (xs : List V) (os : List O) (H : Hp) (Ex : List (Addr × HO)) (rs ws : Roots) (Q : VK) (o : O), xs.length = os.length → Rel X.K X.mg H Ex rs (xs.zip os ++ ws) → f os = some o →
    (∀ v H', Same H H' → Rel X.K X.mg H' Ex ((v, o) :: rs) (xs.zip os ++ ws) → Q v H') → r xs H Q
def liftM (f : List O → Option O) (os : List O) : M O := fun g => match f os with
  | some o => .ok o g
  | none => .bad
theorem wpLift {f : List O → Option O} {os : List O} {g : Gs} {A : O → Gs → Prop} {B : Exn → Gs → Prop} (h : Wp (liftM f os g) A B) : ∃ o, f os = some o ∧ A o g := by
  unfold liftM Wp at h
  cases q : f os with
  | none => rw [q] at h; exact h.elim
  | some o => rw [q] at h; exact ⟨o, rfl, h⟩
/-- two operands -/
def r2L (r : R2) : List V → Hp → VK → Prop := fun xs H Q => match xs with
  | [x, y] => r x y H Q
  | _ => False
def r1L (r : V → Hp → VK → Prop) : List V → Hp → VK → Prop := fun xs H Q => match xs with
  | [x] => r x H Q
  | _ => False
def opM (f : List O → Option O) (ms : M (List O)) : M O := M.bd ms (liftM f)
theorem opCore {r : List V → Hp → VK → Prop} {f : List O → Option O} {ms : M (List O)} {ts : List TE} (pr : PR X r f)
    (g2 : ∀ (σ : St) (H : Hp) (Q : List V → Hp → Prop) (g : Gs) (T : Roots) (Ex : List (Addr × HO)) (ws : Roots), At X H Ex σ g T ws →
      Wp (ms g) (fun os g' => ∀ vs H', vs.length = os.length → (pu = true → g' = g ∧ Same H H') → At X H' Ex σ g' T (vs.zip os ++ Vs pu ws) → Q vs H')
        (fun x g' => ∀ H' cls d, At X H' Ex σ g' T [] → ExAt X.mg cls d H' x → W cls d σ H') → tAll ts σ H Q) :
    ∀ (σ : St) (H : Hp) (Q : VK) (g : Gs) (T : Roots) (Ex : List (Addr × HO)) (ws : Roots), At X H Ex σ g T ws →
      Wp (opM f ms g) (fun o g' => ∀ v H', (pu = true → g' = g ∧ Same H H') → At X H' Ex σ g' ((v, o) :: T) (Vs pu ws) → Q v H')
        (fun x g' => ∀ H' cls d, At X H' Ex σ g' T [] → ExAt X.mg cls d H' x → W cls d σ H') → tAll ts σ H fun xs H2 => r xs H2 Q := fun σ H Q g T Ex ws a w => by
  refine g2 σ H _ g T Ex ws a (w.bd.imp (fun os g' k vs H' hl s a' => ?_) fun _ _ k => k)
  obtain ⟨o, ho, k⟩ := wpLift k
  refine pr vs os H' Ex _ _ Q o hl a'.rel ho fun v H2 s2 r2 => k v H2 (fun z => ?_) (.ofTop a'.fit (r2.views fun p m => List.mem_append_right _ m))
  obtain ⟨e1, e2⟩ := s z
  exact ⟨e1, e2.trans s2⟩
theorem ev_op {op : Operator} {r : R2} {f : List O → Option O} {ms : M (List O)} {pos : Pos} (ho : OpR X (binaryOp op) r) (pr : PR X (r2L r) f) (h : EvAs X W pu [a, b] ms) : Ev X W pu (.BinOp a op b pos) (opM f ms) := by
  obtain ⟨ts, g1, g2⟩ := h.ex
  cases g1 with
  | cons p1 _ g1 =>
    cases g1 with
    | cons p2 _ g1 =>
      cases g1
      exact ⟨_, pe_op ho p1 p2, opCore pr g2⟩
theorem ev_un {op : UnaryOp} {r : V → Hp → VK → Prop} {f : List O → Option O} {ms : M (List O)} {pos : Pos} (ho : UnR X (unaryOp op) r) (pr : PR X (r1L r) f) (h : EvAs X W pu [a] ms) : Ev X W pu (.UnaryOp op a pos) (opM f ms) := by
  obtain ⟨ts, g1, g2⟩ := h.ex
  cases g1 with
  | cons p1 _ g1 =>
    cases g1
    exact ⟨_, pe_un ho p1, opCore pr g2⟩
theorem ev_cmp {op : CmpOp} {r : R2} {f : List O → Option O} {ms : M (List O)} {pos : Pos} (ho : OpR X (compareOp op) r) (pr : PR X (r2L r) f) (h : EvAs X W pu [a, b] ms) (hm : behindInMarks op b = false) : Ev X W pu (.Compare a [op] [b] pos) (opM f ms) := by
  obtain ⟨ts, g1, g2⟩ := h.ex
  cases g1 with
  | cons p1 _ g1 =>
    cases g1 with
    | cons p2 _ g1 =>
      cases g1
      exact ⟨_, pe_cmpR ho p1 p2 hm, opCore pr g2⟩
def asB : O → M Bool := fun o g => match o with
  | .d (.bool b) => .ok b g
  | _ => .bad
theorem wpB {o : O} {g : Gs} {A : Bool → Gs → Prop} {B : Exn → Gs → Prop} (h : Wp (asB o g) A B) : ∃ b, o = .d (.bool b) ∧ A b g := by
  unfold asB at h
  split at h
  · exact ⟨_, rfl, h⟩
  · exact h.elim
theorem Rel.isB {K : PySem.W.Frag} {mg : Str → Option Value} {H : Hp} {Ex : List (Addr × HO)} {rs ws : Roots} {v : V} {k : Bool} (r : Rel K mg H Ex ((v, .d (.bool k)) :: rs) ws) : v = .bl k := by
  obtain ⟨Hf, as, s, he, ho, nd, hn, hw⟩ := r.ex
  cases ho with
  | cons h t => cases h with | d h => cases h; rfl
def tstM (m : M O) : M Bool := M.bd m asB
theorem tstCore {t : TE} (h2 : ∀ (σ : St) (H : Hp) (Q : VK) (g : Gs) (T : Roots) (Ex : List (Addr × HO)) (ws : Roots), At X H Ex σ g T ws →
    Wp (m g) (fun o g' => ∀ v H', (pu = true → g' = g ∧ Same H H') → At X H' Ex σ g' ((v, o) :: T) (Vs pu ws) → Q v H')
      (fun x g' => ∀ H' cls d, At X H' Ex σ g' T [] → ExAt X.mg cls d H' x → W cls d σ H') → t σ H Q) :
    ∀ (σ : St) (H : Hp) (Q : Bool → Hp → Prop) (g : Gs) (T : Roots) (Ex : List (Addr × HO)) (ws : Roots), At X H Ex σ g T ws →
    Wp (tstM m g) (fun b g' => ∀ H', (pu = true → g' = g ∧ Same H H') → At X H' Ex σ g' T (Vs pu ws) → Q b H')
      (fun x g' => ∀ H' cls d, At X H' Ex σ g' T [] → ExAt X.mg cls d H' x → W cls d σ H') → t σ H fun x H1 => ∃ k, x = .bl k ∧ Q k H1 := fun σ H Q g T Ex ws a w => by
  refine h2 σ H _ g T Ex ws a (w.bd.imp (fun o g' k v H' s a' => ?_) fun _ _ k => k)
  obtain ⟨b, e, k⟩ := wpB k
  subst e
  exact ⟨b, a'.top.isB, k H' s a'.drop⟩
theorem et_cmp {op : CmpOp} {r : R2} {f : List O → Option O} {ms : M (List O)} {pos : Pos} (ho : OpR X (compareOp op) r) (pr : PR X (r2L r) f) (h : EvAs X W pu [a, b] ms) (hm : behindInMarks op b = false) : EvT X W pu (.Compare a [op] [b] pos) (tstM (opM f ms)) := by
  obtain ⟨ts, g1, g2⟩ := h.ex
  cases g1 with
  | cons p1 _ g1 =>
    cases g1 with
    | cons p2 _ g1 =>
      cases g1
      exact ⟨_, pt_cmpR ho p1 p2 hm, tstCore (opCore pr g2)⟩
/-- an expression that gives a truth, as a test -/
theorem et_val (h : Ev X W pu e m) (he : ∀ whole, isTrue e X.env whole = (do let v ← whole; standAt e.pos; holding [v] (truthy v)) := by intro _; rfl) : EvT X W pu e (tstM m) := by
  obtain ⟨t, h1, h2⟩ := h.ex
  exact ⟨_, pt_val h1 he, tstCore h2⟩
def notZ (m : M Bool) : M Bool := M.bd m fun b => M.ret (!b)
theorem et_not {m : M Bool} {pos : Pos} (h : EvT X W pu a m) : EvT X W pu (.UnaryOp .Not a pos) (notZ m) := by
  obtain ⟨t, h1, h2⟩ := h.ex
  exact ⟨_, pt_not h1, fun σ H Q g T Ex ws a w => h2 σ H _ g T Ex ws a (w.bd.imp (fun b g' k H' s a' => k H' s a') fun _ _ k => k)⟩
def andZ (m n : M Bool) : M Bool := M.bd m fun b => if b = true then n else M.ret false
def orZ (m n : M Bool) : M Bool := M.bd m fun b => if b = true then M.ret true else n
section
variable {rest : List Expr} {m n : M Bool} {pos : Pos}
theorem ew_and1 (h : EvT X W pu a m) : EvW X W pu (.BoolOp .And [a] pos) m := by
  obtain ⟨t, h1, h2⟩ := h.ex
  exact ⟨_, pw_and1 h1, h2⟩
theorem ew_or1 (h : EvT X W pu a m) : EvW X W pu (.BoolOp .Or [a] pos) m := by
  obtain ⟨t, h1, h2⟩ := h.ex
  exact ⟨_, pw_or1 h1, h2⟩
theorem ew_and (h : EvT X W pu a m) (hb : EvW X W pv (.BoolOp .And (b :: rest) pos) n) : EvW X W (pu && pv) (.BoolOp .And (a :: b :: rest) pos) (andZ m n) := by
  obtain ⟨t, h1, h2⟩ := h.ex
  obtain ⟨u, g1, g2⟩ := hb.ex
  refine ⟨_, pw_and h1 g1, fun σ H Q g T Ex ws a w => ?_⟩
  refine h2 σ H _ g T Ex ws a (w.bd.imp (fun c g' k H' s a' => ?_) fun _ _ k => k)
  cases c with
  | true =>
    refine iteT (g2 σ H' Q g' T Ex _ a' (k.imp (fun c g2 k H2 s2 a2 => k H2 (fun z => ?_) (by rw [vsVs] at a2; exact a2)) fun _ _ k => k))
    have z' := Bool.and_eq_true_iff.mp z
    obtain ⟨e1, e2⟩ := s z'.1
    obtain ⟨e3, e4⟩ := s2 z'.2
    exact ⟨e3.trans e1, e2.trans e4⟩
  | false =>
    refine iteF (k H' (fun z => s (Bool.and_eq_true_iff.mp z).1) (a'.views fun p m => ?_))
    cases pu <;> cases pv <;> first | exact m | cases m
theorem ew_or (h : EvT X W pu a m) (hb : EvW X W pv (.BoolOp .Or (b :: rest) pos) n) : EvW X W (pu && pv) (.BoolOp .Or (a :: b :: rest) pos) (orZ m n) := by
  obtain ⟨t, h1, h2⟩ := h.ex
  obtain ⟨u, g1, g2⟩ := hb.ex
  refine ⟨_, pw_or h1 g1, fun σ H Q g T Ex ws a w => ?_⟩
  refine h2 σ H _ g T Ex ws a (w.bd.imp (fun c g' k H' s a' => ?_) fun _ _ k => k)
  cases c with
  | false =>
    refine iteF (g2 σ H' Q g' T Ex _ a' (k.imp (fun c g2 k H2 s2 a2 => k H2 (fun z => ?_) (by rw [vsVs] at a2; exact a2)) fun _ _ k => k))
    have z' := Bool.and_eq_true_iff.mp z
    obtain ⟨e1, e2⟩ := s z'.1
    obtain ⟨e3, e4⟩ := s2 z'.2
    exact ⟨e3.trans e1, e2.trans e4⟩
  | true =>
    refine iteT (k H' (fun z => s (Bool.and_eq_true_iff.mp z).1) (a'.views fun p m => ?_))
    cases pu <;> cases pv <;> first | exact m | cases m
end
end
end Z

namespace Z
open PySem PySem.Spec L2

section
variable {X : Cx} {H H' : Hp} {Ex : List (Addr × HO)} {σ : St} {g : Gs} {T T' ws ws' : Roots} {W : WX} {pu pv : Bool} {e a b : Expr} {es : List Expr} {m ma mb : M O} {pos : Pos}
theorem vsT {ws : Roots} : Vs true ws = ws := rfl
theorem vsF {ws : Roots} : Vs false ws = [] := rfl

/-! ### names -/
/-- plain data is read -/
def rdM (i : Nat) : M O := fun g => match g[i]? with
  | some (some (.d x)) => .ok (.d x) g
  | _ => .bad
/-- what stands at a name becomes data and is read -/
def fzM (i : Nat) : M O := fun g => match g[i]? with
  | some (some (.d x)) => .ok (.d x) g
  | some (some o) => match o.fz with
    | some x => .ok (.d x) (g.set i (some (.d x)))
    | none => .bad
  | _ => .bad
def pkM (i : Nat) : M O := fun g => match g[i]? with
  | some (some o) => .ok o g
  | _ => .bad
/-- what stands at a name is handed away -/
def mvM (i : Nat) : M O := fun g => match g[i]? with
  | some (some o) => .ok o (g.set i none)
  | _ => .bad
theorem At.get {i : Nat} {o : O} {v : V} (a : At X H Ex σ g T ws) (hg : g[i]? = some (some o)) (hv : σ[i]? = some (some v)) : Rel X.K X.mg H Ex ((v, o) :: (roots σ (g.set i none) ++ T)) ws :=
  a.rel.perm ((rootsGet hv hg).append_right T)
theorem setGet {i : Nat} {o : O} (hg : g[i]? = some (some o)) : g.set i (some o) = g := by
  apply List.ext_getElem?
  intro j
  by_cases e : i = j
  · subst e
    rw [List.getElem?_set_self (List.getElem?_eq_some_iff.mp hg).1, hg]
  · rw [List.getElem?_set_ne e]
theorem stGet {i : Nat} {v : V} (hv : σ[i]? = some (some v)) : σ.set i (some v) = σ := by
  apply List.ext_getElem?
  intro j
  by_cases e : i = j
  · subst e
    rw [List.getElem?_set_self (List.getElem?_eq_some_iff.mp hv).1, hv]
  · rw [List.getElem?_set_ne e]
theorem rootsPut {i : Nat} {o : O} {v : V} (f : Fit σ g) (hv : σ[i]? = some (some v)) : (roots σ (g.set i (some o))).Perm ((v, o) :: roots σ (g.set i none)) := by
  have hi := (List.getElem?_eq_some_iff.mp hv).1
  have := rootsSet (σ := σ) (g := g) (i := i) (v := v) (o := o) hi (f.len ▸ hi)
  rwa [stGet hv] at this
/-- the root of a slot is put back -/
theorem At.put {i : Nat} {o : O} {v : V} (f : Fit σ g) (hv : σ[i]? = some (some v)) (r : Rel X.K X.mg H Ex ((v, o) :: (roots σ (g.set i none) ++ T)) ws) : At X H Ex σ (g.set i (some o)) T ws := by
  refine ⟨⟨by rw [List.length_set]; exact f.len, fun j o' h => ?_⟩, r.perm ((rootsPut f hv).symm.append_right T)⟩
  by_cases e : i = j
  · subst e; exact ⟨v, hv⟩
  · rw [List.getElem?_set_ne e] at h; exact f.at_ j o' h
theorem At.rd {i : Nat} {x : PyData} {v : V} (a : At X H Ex σ g T ws) (hg : g[i]? = some (some (.d x))) (hv : σ[i]? = some (some v)) : At X H Ex σ g ((v, .d x) :: T) ws := by
  have r := (a.get hg hv).dup
  refine .ofTop a.fit (r.perm (.cons _ ?_))
  have p := (rootsGet hv hg).append_right T
  exact p.symm
theorem At.pk {i : Nat} {o : O} {v : V} (a : At X H Ex σ g T ws) (hg : g[i]? = some (some o)) (hv : σ[i]? = some (some v)) : At X H Ex σ g T ((v, o) :: ws) := by
  have r := (a.get hg hv).see
  exact ⟨a.fit, r.perm ((rootsGet hv hg).append_right T).symm⟩
theorem At.fzAt {i : Nat} {o : O} {x : PyData} {v : V} (a : At X H Ex σ g T ws) (hg : g[i]? = some (some o)) (hv : σ[i]? = some (some v)) (hf : o.fz = some x) : At X H Ex σ (g.set i (some (.d x))) T ws :=
  .put a.fit hv ((a.get hg hv).fz hf)
theorem ev_rd (i : Nat) {x : Str} (hN : X.N[i]? = some x := by rfl) (hv : Vis X.env.scope x := by first | exact Or.inl rfl | exact Or.inr (Or.inl rfl) | exact Or.inr (Or.inr rfl)) (hd : (x == ("__debug__" : Str)) = false := by decide)
    (hcd : (x == ("__classdict__" : Str)) = false := by decide) : Ev X W true (.Name x pos) (rdM i) := by
  refine ⟨_, pv i hN hv hd hcd, fun σ H Q g T Ex ws a w => ?_⟩
  unfold rdM at w
  split at w
  · rename_i y hg
    obtain ⟨v, hv⟩ := a.fit.at_ _ _ hg
    exact ⟨v, hv, w v H (fun _ => ⟨rfl, Same.refl _⟩) (a.rd hg hv)⟩
  · exact w.elim
theorem ev_fz (i : Nat) {x : Str} (hN : X.N[i]? = some x := by rfl) (hv : Vis X.env.scope x := by first | exact Or.inl rfl | exact Or.inr (Or.inl rfl) | exact Or.inr (Or.inr rfl)) (hd : (x == ("__debug__" : Str)) = false := by decide)
    (hcd : (x == ("__classdict__" : Str)) = false := by decide) : Ev X W false (.Name x pos) (fzM i) := by
  refine ⟨_, pv i hN hv hd hcd, fun σ H Q g T Ex ws a w => ?_⟩
  unfold fzM at w
  split at w
  · rename_i y hg
    obtain ⟨v, hv⟩ := a.fit.at_ _ _ hg
    exact ⟨v, hv, w v H (fun z => by cases z) ((a.rd hg hv).views vsSub)⟩
  · rename_i o _ hg
    split at w
    · rename_i y hf
      obtain ⟨v, hv⟩ := a.fit.at_ _ _ hg
      have hi := (List.getElem?_eq_some_iff.mp hg).1
      exact ⟨v, hv, w v H (fun z => by cases z) (((a.fzAt hg hv hf).rd (List.getElem?_set_self hi) hv).views vsSub)⟩
    · exact w.elim
  · exact w.elim
theorem ep_pk (i : Nat) {x : Str} (hN : X.N[i]? = some x := by rfl) (hv : Vis X.env.scope x := by first | exact Or.inl rfl | exact Or.inr (Or.inl rfl) | exact Or.inr (Or.inr rfl)) (hd : (x == ("__debug__" : Str)) = false := by decide)
    (hcd : (x == ("__classdict__" : Str)) = false := by decide) : EvP X W true (.Name x pos) (pkM i) := by
  refine ⟨_, pv i hN hv hd hcd, fun σ H Q g T Ex ws a w => ?_⟩
  unfold pkM at w
  split at w
  · rename_i y hg
    obtain ⟨v, hv⟩ := a.fit.at_ _ _ hg
    exact ⟨v, hv, w v H (fun _ => ⟨rfl, Same.refl _⟩) (a.pk hg hv)⟩
  · exact w.elim
theorem ev_mv (i : Nat) {x : Str} (hN : X.N[i]? = some x := by rfl) (hv : Vis X.env.scope x := by first | exact Or.inl rfl | exact Or.inr (Or.inl rfl) | exact Or.inr (Or.inr rfl)) (hd : (x == ("__debug__" : Str)) = false := by decide)
    (hcd : (x == ("__classdict__" : Str)) = false := by decide) : Ev X W false (.Name x pos) (mvM i) := by
  refine ⟨_, pv i hN hv hd hcd, fun σ H Q g T Ex ws a w => ?_⟩
  unfold mvM at w
  split at w
  · rename_i y hg
    obtain ⟨v, hv⟩ := a.fit.at_ _ _ hg
    exact ⟨v, hv, w v H (fun z => by cases z) (.ofTop (a.fit.clr i) ((a.get hg hv).views vsSub))⟩
  · exact w.elim
/-- what is only looked at, when it is data, is had -/
def vwM (m : M O) : M O := M.bd m fun o g => match o with
  | .d x => .ok (.d x) g
  | _ => .bad
theorem ev_vw (h : EvP X W pu e m) : Ev X W pu e (vwM m) := by
  obtain ⟨t, h1, h2⟩ := h.ex
  refine ⟨t, h1, fun σ H Q g T Ex ws a w => h2 σ H Q g T Ex ws a (w.bd.imp (fun o g' k v H' s a' => ?_) fun _ _ k => k)⟩
  split at k
  · refine k v H' s (.ofTop a'.fit ?_)
    exact a'.rel.ofView.views fun p m => List.mem_cons_of_mem _ m
  · exact k.elim

/-! ### constants -/
def dM (x : PyData) : M O := M.ret (.d x)
theorem ev_int {i : Int} {j : Nat} : Ev X W true (.Constant (.int i) j pos) (dM (.int i)) := ⟨_, pe_int, fun σ H Q g T Ex ws a w => w _ H (fun _ => ⟨rfl, Same.refl _⟩) (a.data fun _ => .int i)⟩
theorem ev_bl {i : Bool} {j : Nat} : Ev X W true (.Constant (.bool i) j pos) (dM (.bool i)) := ⟨_, pe_bl, fun σ H Q g T Ex ws a w => w _ H (fun _ => ⟨rfl, Same.refl _⟩) (a.data fun _ => .bl i)⟩
theorem ev_non {j : Nat} : Ev X W true (.Constant .none j pos) (dM .none) := ⟨_, pe_non, fun σ H Q g T Ex ws a w => w _ H (fun _ => ⟨rfl, Same.refl _⟩) (a.data fun _ => .non)⟩
theorem ev_str {x : Str} {j : Nat} : Ev X W true (.Constant (.str x) j pos) (dM (.str x)) := ⟨_, pe_str, fun σ H Q g T Ex ws a w => w _ H (fun _ => ⟨rfl, Same.refl _⟩) (a.data fun _ => .str x)⟩
/-- a module's name that holds a text, an int -/
theorem ev_glob {x : Str} {v : V} {u : Value} {y : PyData} (hg : Gl X x) (hm : X.mg x = some u) (r : RelV v u) (hd : ∀ Hf, Dp X.K Hf v y) (hdb : (x == ("__debug__" : Str)) = false := by decide) : Ev X W true (.Name x pos) (dM y) :=
  ⟨_, pe_glob hg hm r hdb, fun σ H Q g T Ex ws a w => w _ H (fun _ => ⟨rfl, Same.refl _⟩) (a.data hd)⟩

/-! ### values in a row, had -/
structure EvEs (X : Cx) (W : WX) (pu : Bool) (es : List Expr) (m : M (List O)) : Prop where
  ex : ∃ ts, PEs X es ts ∧ ∀ (σ : St) (H : Hp) (Q : List V → Hp → Prop) (g : Gs) (T : Roots) (Ex : List (Addr × HO)) (ws : Roots), At X H Ex σ g T ws →
    Wp (m g) (fun os g' => ∀ vs H', vs.length = os.length → (pu = true → g' = g ∧ Same H H') → At X H' Ex σ g' (vs.zip os ++ T) (Vs pu ws) → Q vs H')
      (fun x g' => ∀ H' cls d, At X H' Ex σ g' T [] → ExAt X.mg cls d H' x → W cls d σ H') → tAll ts σ H Q
theorem ees_nil : EvEs X W true [] (M.ret []) := ⟨[], .nil, fun σ H Q g T Ex ws a w => w [] H rfl (fun _ => ⟨rfl, Same.refl _⟩) a⟩
theorem permIn {p : V × O} {l T : Roots} : (l ++ p :: T).Perm ((p :: l) ++ T) := List.perm_middle
theorem ees_cons {ms : M (List O)} (h : Ev X W pu e m) (hs : EvEs X W pv es ms) (st : starEach (e :: es) X.env = (false, eval e X.env) :: starEach es X.env := by rfl) : EvEs X W (pu && pv) (e :: es) (consM m ms) := by
  obtain ⟨t, h1, h2⟩ := h.ex
  obtain ⟨ts, g1, g2⟩ := hs.ex
  refine ⟨t :: ts, .cons h1 st g1, fun σ H Q g T Ex ws a w => ?_⟩
  refine h2 σ H _ g T Ex ws a (w.bd.imp (fun o g' k v H' s a' => ?_) fun _ _ k => k)
  refine g2 σ H' _ g' _ Ex _ a' (k.bd.imp (fun os g2 k vs H2 hl s2 a2 => ?_) fun x g2 k H2 cls d a2 => k H2 cls d a2.drop)
  refine k (v :: vs) H2 (by simp [hl]) (fun z => ?_) ((a2.perm permIn).views fun p m => by rw [vsVs]; exact m)
  have z' := Bool.and_eq_true_iff.mp z
  obtain ⟨e1, e2⟩ := s z'.1
  obtain ⟨e3, e4⟩ := s2 z'.2
  exact ⟨e3.trans e1, e2.trans e4⟩
def allD : List O → Option (List PyData)
  | [] => some []
  | .d x :: r => match allD r with | some y => some (x :: y) | none => none
  | _ :: _ => none
theorem allDFz : ∀ {os : List O} {ds : List PyData}, allD os = some ds → O.fzL os = some ds
  | [], _, h => by simpa only [allD, O.fzL] using h
  | .d x :: r, ds, h => by
    simp only [allD] at h
    cases q : allD r with
    | none => rw [q] at h; cases h
    | some y =>
      rw [q] at h
      cases h
      simp only [O.fzL, O.fz, allDFz q]
  | .gL _ :: _, _, h => by simp [allD] at h
  | .gT _ :: _, _, h => by simp [allD] at h
  | .lst _ :: _, _, h => by simp [allD] at h
  | .tup _ :: _, _, h => by simp [allD] at h
  | .dK _ :: _, _, h => by simp [allD] at h
  | .dT _ :: _, _, h => by simp [allD] at h
  | .ins _ _ :: _, _, h => by simp [allD] at h
theorem allDMap : ∀ {os : List O} {ds : List PyData}, allD os = some ds → os = ds.map O.d
  | [], _, h => by simp only [allD, Option.some.injEq] at h; subst h; rfl
  | .d x :: r, ds, h => by
    simp only [allD] at h
    cases q : allD r with
    | none => rw [q] at h; cases h
    | some y =>
      rw [q] at h
      cases h
      rw [List.map_cons, ← allDMap q]
  | .gL _ :: _, _, h => by simp [allD] at h
  | .gT _ :: _, _, h => by simp [allD] at h
  | .lst _ :: _, _, h => by simp [allD] at h
  | .tup _ :: _, _, h => by simp [allD] at h
  | .dK _ :: _, _, h => by simp [allD] at h
  | .dT _ :: _, _, h => by simp [allD] at h
  | .ins _ _ :: _, _, h => by simp [allD] at h
theorem allD_map : ∀ ds : List PyData, allD (ds.map O.d) = some ds
  | [] => rfl
  | x :: r => by simp [allD, allD_map r]
def mkTup (os : List O) : O := match allD os with
  | some ds => .d (.tuple ds)
  | none => .tup os
def lenOk (n : Nat) : Bool := decide (n ≤ 16777216)
theorem lenOk_le {n : Nat} (h : lenOk n = true) : n ≤ sizeLine := by
  have := of_decide_eq_true h
  rw [sizeLine_eq]
  exact this
def gdM {α : Type} (c : Bool) (m : M α) : M α := fun g => if c = true then m g else .bad
theorem wpGd {α : Type} {c : Bool} {m : M α} {A : α → Gs → Prop} {B : Exn → Gs → Prop} (h : Wp (gdM c m g) A B) : c = true ∧ Wp (m g) A B := by
  unfold gdM at h
  split at h
  · exact ⟨by assumption, h⟩
  · exact h.elim
def tupM (ms : M (List O)) : M O := M.bd ms fun os => gdM (lenOk os.length) (M.ret (mkTup os))
def lstM (ms : M (List O)) : M O := M.bd ms fun os => gdM (lenOk os.length) (M.ret (.lst os))
theorem Rel.newTup {K : PySem.W.Frag} {mg : Str → Option Value} {rs : Roots} {vs : List V} {os : List O} {p : Addr} (r : Rel K mg H Ex (vs.zip os ++ rs) ws) (hl : vs.length = os.length) (hp : H p = none) : Rel K mg (upd H p (.tup vs)) Ex ((.ref p, mkTup os) :: rs) ws := by
  have r1 := (r.new (.tup vs) hp).shut (.tup (os := os)) hl
  unfold mkTup
  split
  · rename_i ds hd
    exact r1.fz (by simp only [O.fz, allDFz hd])
  · exact r1
theorem Rel.newLst {K : PySem.W.Frag} {mg : Str → Option Value} {rs : Roots} {vs : List V} {os : List O} {p : Addr} (r : Rel K mg H Ex (vs.zip os ++ rs) ws) (hl : vs.length = os.length) (hp : H p = none) : Rel K mg (upd H p (.lst vs)) Ex ((.ref p, .lst os) :: rs) ws :=
  (r.new (.lst vs) hp).shut (.lst (os := os)) hl
theorem At.tops {l : Roots} (a : At X H Ex σ g (l ++ T) ws) : Rel X.K X.mg H Ex (l ++ (roots σ g ++ T)) ws := a.rel.perm (by
  rw [← List.append_assoc, ← List.append_assoc]
  exact List.perm_append_comm.append_right _)
theorem ev_tup {ms : M (List O)} {x1 : Nat} (h : EvEs X W pu es ms) : Ev X W pu (.Tuple es x1 pos) (tupM ms) := by
  obtain ⟨ts, g1, g2⟩ := h.ex
  refine ⟨_, pe_tup g1.pa, fun σ H Q g T Ex ws a w => ?_⟩
  refine g2 σ H _ g T Ex ws a (w.bd.imp (fun os g' k vs H' hl s a' => ?_) fun _ _ k => k)
  obtain ⟨k1, k⟩ := wpGd k
  refine ⟨hl ▸ lenOk_le k1, fun p hp => k _ _ (fun z => ?_) (.ofTop a'.fit (a'.tops.newTup hl hp))⟩
  obtain ⟨e1, e2⟩ := s z
  exact ⟨e1, e2.trans (sameNew hp _)⟩
theorem ev_lst {ms : M (List O)} (h : EvEs X W pu es ms) : Ev X W pu (.List es pos) (lstM ms) := by
  obtain ⟨ts, g1, g2⟩ := h.ex
  refine ⟨_, pe_lst g1.pa, fun σ H Q g T Ex ws a w => ?_⟩
  refine g2 σ H _ g T Ex ws a (w.bd.imp (fun os g' k vs H' hl s a' => ?_) fun _ _ k => k)
  obtain ⟨k1, k⟩ := wpGd k
  refine ⟨hl ▸ lenOk_le k1, fun p hp => k _ _ (fun z => ?_) (.ofTop a'.fit (a'.tops.newLst hl hp))⟩
  obtain ⟨e1, e2⟩ := s z
  exact ⟨e1, e2.trans (sameNew hp _)⟩

/-! ### a if t else b; truths as values; chains -/
def ifM {α : Type} (c : M Bool) (m n : M α) : M α := M.bd c fun b => if b = true then m else n
theorem purTr {g1 g2 : Gs} {H1 H2 : Hp} (s : pu = true → g1 = g ∧ Same H H1) (s2 : pv = true → g2 = g1 ∧ Same H1 H2) (z : (pu && pv) = true) : g2 = g ∧ Same H H2 := by
  have z' := Bool.and_eq_true_iff.mp z
  obtain ⟨e1, e2⟩ := s z'.1
  obtain ⟨e3, e4⟩ := s2 z'.2
  exact ⟨e3.trans e1, e2.trans e4⟩
theorem andL {p q : Bool} : (p && q) = true → p = true := fun z => (Bool.and_eq_true_iff.mp z).1
theorem andR {p q : Bool} : (p && q) = true → q = true := fun z => (Bool.and_eq_true_iff.mp z).2
theorem vsL {p q : Bool} : ∀ r ∈ Vs (p && q) ws, r ∈ Vs p ws := fun r m => by
  unfold Vs at m ⊢
  split at m
  · rw [if_pos (andL (by assumption))]; exact m
  · cases m
theorem ev_if {c : Expr} {mc : M Bool} {pw : Bool} (hc : EvT X W pu c mc) (ha : Ev X W pv a ma) (hb : Ev X W pw b mb) : Ev X W (pu && (pv && pw)) (.IfExp c a b pos) (ifM mc ma mb) := by
  obtain ⟨tc, c1, c2⟩ := hc.ex
  obtain ⟨ta, a1, a2⟩ := ha.ex
  obtain ⟨tb, b1, b2⟩ := hb.ex
  refine ⟨_, pe_ifExp c1 a1 b1, fun σ H Q g T Ex ws a w => ?_⟩
  refine c2 σ H _ g T Ex ws a (w.bd.imp (fun c g' k H' s a' => ?_) fun _ _ k => k)
  cases c with
  | true => exact iteT (a2 σ H' Q g' T Ex _ a' (k.imp (fun o g2 k v H2 s2 a3 => k v H2 (fun z => purTr s s2 (by rw [andL z, andL (andR z)]; rfl)) (a3.views fun p m => by rw [vsVs]; rw [← Bool.and_assoc] at m; exact vsL p m)) fun _ _ k => k))
  | false => exact iteF (b2 σ H' Q g' T Ex _ a' (k.imp (fun o g2 k v H2 s2 a3 => k v H2 (fun z => purTr s s2 (by rw [andL z, andR (andR z)]; rfl)) (a3.views fun p m => by rw [vsVs]; rw [Bool.and_comm pv pw, ← Bool.and_assoc] at m; exact vsL p m)) fun _ _ k => k))
def blM (m : M Bool) : M O := M.bd m fun b => M.ret (.d (.bool b))
/-- x and y, of truths -/
def andV (m n : M O) : M O := M.bd (tstM m) fun b => if b = true then n else M.ret (.d (.bool false))
def orV (m n : M O) : M O := M.bd (tstM m) fun b => if b = true then M.ret (.d (.bool true)) else n
section
variable {rest : List Expr} {n : M O}
theorem ev_one {op : BoolOp} (h : Ev X W pu a m) : Ev X W pu (.BoolOp op [a] pos) m := by
  obtain ⟨t, h1, h2⟩ := h.ex
  exact ⟨_, pe_one h1, h2⟩
theorem ev_and (h : Ev X W pu a m) (hb : Ev X W pv (.BoolOp .And (b :: rest) pos) n) : Ev X W (pu && pv) (.BoolOp .And (a :: b :: rest) pos) (andV m n) := by
  obtain ⟨t, h1, h2⟩ := h.ex
  obtain ⟨u, g1, g2⟩ := hb.ex
  refine ⟨_, pe_and h1 g1, fun σ H Q g T Ex ws a w => ?_⟩
  refine h2 σ H _ g T Ex ws a (w.bd.bd.imp (fun o g' k v H' s a' => ?_) fun _ _ k => k)
  obtain ⟨c, e, kk⟩ := wpB k
  clear k
  subst e
  refine ⟨c, a'.top.isB, ?_⟩
  cases c with
  | true => exact iteT (g2 σ H' Q g' T Ex _ a'.drop (kk.imp (fun c g2 k v H2 s2 a2 => k v H2 (fun z => purTr s s2 z) (by rw [vsVs] at a2; exact a2)) fun _ _ k => k))
  | false => exact iteF (kk _ H' (fun z => s (andL z)) ((a'.drop.data fun _ => .bl false).views vsL))
theorem ev_or (h : Ev X W pu a m) (hb : Ev X W pv (.BoolOp .Or (b :: rest) pos) n) : Ev X W (pu && pv) (.BoolOp .Or (a :: b :: rest) pos) (orV m n) := by
  obtain ⟨t, h1, h2⟩ := h.ex
  obtain ⟨u, g1, g2⟩ := hb.ex
  refine ⟨_, pe_or h1 g1, fun σ H Q g T Ex ws a w => ?_⟩
  refine h2 σ H _ g T Ex ws a (w.bd.bd.imp (fun o g' k v H' s a' => ?_) fun _ _ k => k)
  obtain ⟨c, e, kk⟩ := wpB k
  clear k
  subst e
  refine ⟨c, a'.top.isB, ?_⟩
  cases c with
  | false => exact iteF (g2 σ H' Q g' T Ex _ a'.drop (kk.imp (fun c g2 k v H2 s2 a2 => k v H2 (fun z => purTr s s2 z) (by rw [vsVs] at a2; exact a2)) fun _ _ k => k))
  | true => exact iteT (kk _ H' (fun z => s (andL z)) ((a'.drop.data fun _ => .bl true).views vsL))
def notV (m : M O) : M O := M.bd (tstM m) fun b => M.ret (.d (.bool (!b)))
theorem ev_not (h : Ev X W pu a m) : Ev X W pu (.UnaryOp .Not a pos) (notV m) := by
  obtain ⟨t, h1, h2⟩ := h.ex
  refine ⟨_, pe_not h1, fun σ H Q g T Ex ws a w => ?_⟩
  refine h2 σ H _ g T Ex ws a (w.bd.bd.imp (fun o g' k v H' s a' => ?_) fun _ _ k => k)
  obtain ⟨c, e, k⟩ := wpB k
  subst e
  exact ⟨c, a'.top.isB, k _ H' s (a'.drop.data fun _ => .bl _)⟩
end
/-- a < b < c of data: the middle one had -/
def chM (f f' : List O → Option O) (ma mb mc : M O) : M O := M.bd ma fun x => M.bd mb fun y => M.bd (opM f (M.ret [x, y])) fun z => M.bd (asB z) fun k => if k = true then M.bd mc fun u => opM f' (M.ret [y, u]) else M.ret (.d (.bool false))
theorem ev_chain {op op' : CmpOp} {r r' : R2} {f f' : List O → Option O} {c : Expr} {mc : M O} {pw : Bool} (ho : OpR X (compareOp op) r) (ho' : OpR X (compareOp op') r') (pr : PR X (r2L r) f) (pr' : PR X (r2L r') f') (ha : Ev X W pu a ma) (hb : Ev X W pv b mb) (hc : Ev X W pw c mc)
    (hm : lastMarks [op, op'] [b, c] = false) : Ev X W (pu && (pv && pw)) (.Compare a [op, op'] [b, c] pos) (chM f f' ma mb mc) := by
  obtain ⟨ta, a1, a2⟩ := ha.ex
  obtain ⟨tb, b1, b2⟩ := hb.ex
  obtain ⟨tc, c1, c2⟩ := hc.ex
  refine ⟨_, pe_chain ho ho' a1 b1 c1 hm, fun σ H Q g T Ex ws a w => ?_⟩
  refine a2 σ H _ g T Ex ws a (w.bd.imp (fun x g1 k v H1 s a' => ?_) fun _ _ k => k)
  refine b2 σ H1 _ g1 _ Ex _ a' (k.bd.imp (fun y g2 k u H2 s2 a'' => ?_) fun x g2 k H2 cls d a2 => k H2 cls d a2.drop)
  have k := k.bd.bd
  obtain ⟨z, hz, k⟩ := wpLift k
  obtain ⟨q, e, kk⟩ := wpB k.bd
  clear k
  subst e
  have rr := a''.top.see
  have r0 : Rel X.K X.mg H2 Ex ((v, x) :: (u, y) :: (roots σ g2 ++ T)) ((u, y) :: Vs pv (Vs pu ws)) := rr.perm ((List.Perm.cons _ List.perm_middle).trans (.swap _ _ _))
  have r1 : Rel X.K X.mg H2 Ex ((v, x) :: (u, y) :: (roots σ g2 ++ T)) ([v, u].zip [x, y] ++ Vs pv (Vs pu ws)) := r0.see
  refine pr [v, u] [x, y] H2 Ex _ _ _ _ rfl r1 hz fun w1 H3 s3 r3 => ?_
  refine ⟨q, r3.isB, ?_⟩
  have r4 : Rel X.K X.mg H3 Ex ((u, y) :: (roots σ g2 ++ T)) (Vs pv (Vs pu ws)) := (r3.drop.drop).views fun p m => List.mem_append_right _ m
  cases q with
  | true =>
    refine iteT (c2 σ H3 _ g2 _ Ex _ (.ofTop a''.fit r4) (kk.bd.imp (fun o g3 k w2 H4 s4 a4 => ?_) fun x g2 k H2 cls d a2 => k H2 cls d a2.drop))
    obtain ⟨z2, hz2, k⟩ := wpLift k.bd
    have rr := a4.top.see
    have r0 : Rel X.K X.mg H4 Ex ((u, y) :: (w2, o) :: (roots σ g3 ++ T)) ((w2, o) :: Vs pw (Vs pv (Vs pu ws))) := rr.perm ((List.Perm.cons _ List.perm_middle).trans (.swap _ _ _))
    have r1 : Rel X.K X.mg H4 Ex ((u, y) :: (w2, o) :: (roots σ g3 ++ T)) ([u, w2].zip [y, o] ++ Vs pw (Vs pv (Vs pu ws))) := r0.see
    refine pr' [u, w2] [y, o] H4 Ex _ _ _ _ rfl r1 hz2 fun w3 H5 s5 r5 => k w3 H5 (fun t => ?_) (.ofTop a4.fit ?_)
    · obtain ⟨e1, f1⟩ := s (andL t)
      obtain ⟨e2, f2⟩ := s2 (andL (andR t))
      obtain ⟨e3, f3⟩ := s4 (andR (andR t))
      exact ⟨e3.trans (e2.trans e1), f1.trans (f2.trans (s3.trans (f3.trans s5)))⟩
    · have p : ((w3, z2) :: (u, y) :: (w2, o) :: (roots σ g3 ++ T)).Perm ((u, y) :: (w2, o) :: (w3, z2) :: (roots σ g3 ++ T)) := (List.Perm.swap _ _ _).trans (.cons _ (.swap _ _ _))
      refine ((r5.perm p).drop.drop).views fun p m => List.mem_append_right _ ?_
      rw [vsVs, vsVs]
      exact m
  | false =>
    refine iteF (kk _ H3 (fun t => ?_) (.ofTop a''.fit ?_))
    · obtain ⟨e1, f1⟩ := s (andL t)
      obtain ⟨e2, f2⟩ := s2 (andL (andR t))
      exact ⟨e2.trans e1, f1.trans (f2.trans s3)⟩
    · refine (r4.drop.data fun _ => .bl false).views fun p m => ?_
      rw [vsVs]
      rw [← Bool.and_assoc] at m
      exact vsL p m
end
end Z

namespace Z
open PySem PySem.Spec L2

/-! ### calls of the text's own, what they let out at the slots -/
section
variable {X : Cx} {CX : CXT} {k : Nat} {f C : Addr} {fd : FuncData} {ps : List Str} {sp : Sp} {E : L2.St → XK} {dvs : List V} {ds : List Value} {x m : Str} {p pos apos : Pos} {e o : Expr} {es : List Expr} {ta : TE} {t : TA}
theorem runS {pins : List (Addr × Obj)} {σ : L2.St} {H : Hp} {s : Shared} {Q : VK} {us : List Value} {vs : List V} (F : FnOk X.prog X.w X.K X.mg X.base CX k f fd ps sp) (hr : Room k X.A) (hb : L2.Binds X.K fd ps ds) (hd : Vals dvs ds) (hx : PassesAt CX X σ (E σ))
    (I : Inv X pins σ H s) (r : Vals vs us) (h : sp (vs ++ dvs) H Q (E σ)) : wpAny (model X.prog X.w) X.A (call (.ref f) us) (EP X pins σ Q) X.xe s := by
  have r2 : Vals (vs ++ dvs) (us ++ ds) := r.append hd
  have hl : (us ++ ds).length = ps.length := by rw [← r2.length]; exact F.len _ _ _ _ h
  refine wpAny_call (codeAny_mono (F.run X.A X.stack s H ⟨us, []⟩ (us ++ ds) (vs ++ dvs) Q (E σ) hr I.env0 (hb s us I.kIn hl) r2 h) fun r s' hq => ?_)
  cases r with
  | error e => exact hx pins H s e s' I hq
  | ok fl =>
    cases fl with
    | ret u => exact I.after hq
    | next => exact False.elim hq
    | brk => exact False.elim hq
    | cont => exact False.elim hq
def tCalS (sp : Sp) (dvs : List V) (E : L2.St → XK) (t : TA) : TE := fun σ H Q => t σ H fun vs H1 => sp (vs ++ dvs) H1 Q (E σ)
theorem pcS (F : FnOk X.prog X.w X.K X.mg X.base CX k f fd ps sp) (hr : Room k X.A) (hg : Gl X x) (hm : X.mg x = some (.ref f)) (hk : PySem.W.keepIn X.K (.ref f) = true) (hb : L2.Binds X.K fd ps ds) (hd : Vals dvs ds) (hx : ∀ σ, PassesAt CX X σ (E σ))
    (ha : PA X (e :: es) t) (hdb : (x == ("__debug__" : Str)) = false := by decide) (he : starEach (e :: es) X.env = (false, eval e X.env) :: starEach es X.env := by rfl) (hpl : (backTo pos (starEach es X.env)).any (·.1) = false := by rfl) :
    PE X (.Call (.Name x p) (e :: es) [] pos) (tCalS sp dvs E t) := by
  refine ⟨fun pins s σ H Q I h => ?_⟩
  refine wpAny_Call_Name_kw (ld_glob I hg hm ?_ hdb)
  refine PySem.W.callWith_K (h₀ := X.base) I.ok.mod.kin hk (thn (ha.run pos pins s σ H _ I h) fun us s1 ⟨vs, H1, I1, r, q⟩ => ⟨I1.kIn, ?_⟩) he hpl
  exact runS F hr hb hd (hx σ) I1 r q
theorem pcS0 (F : FnOk X.prog X.w X.K X.mg X.base CX k f fd ps sp) (hr : Room k X.A) (hg : Gl X x) (hm : X.mg x = some (.ref f)) (hk : PySem.W.keepIn X.K (.ref f) = true) (hb : L2.Binds X.K fd ps ds) (hd : Vals dvs ds) (hx : ∀ σ, PassesAt CX X σ (E σ))
    (hdb : (x == ("__debug__" : Str)) = false := by decide) : PE X (.Call (.Name x p) [] [] pos) (tCalS sp dvs E tNil) := by
  refine ⟨fun pins s σ H Q I h => ?_⟩
  refine wpAny_Call_Name_kw (ld_glob I hg hm ?_ hdb)
  exact PySem.W.callWith_K0 I.kIn hk (runS (us := []) F hr hb hd (hx σ) I .nil h)
def tMetS (C : Addr) (m : Str) (sp : Sp) (dvs : List V) (E : L2.St → XK) (ta : TE) (t : TA) : TE := fun σ H Q => ta σ H fun x H1 => ∃ a dx fs, x = .ref a ∧ H1 a = some (.ins C dx fs) ∧ fs.lookup m = none ∧
  t σ H1 fun vs H2 => sp (x :: (vs ++ dvs)) H2 Q (E σ)
theorem pmS {pl : Sem Bool} (he : PE X o ta) (c : Cls X.K C) (hm : Meth X.K C m f) (F : FnOk X.prog X.w X.K X.mg X.base CX k f fd ps sp) (hr : Room k X.A) (hb : L2.Binds X.K fd ps ds) (hd : Vals dvs ds) (hx : ∀ σ, PassesAt CX X σ (E σ)) (ha : PA X (e :: es) t)
    (hst : starEach (e :: es) X.env = (false, eval e X.env) :: starEach es X.env := by rfl) (hpl : (backTo pos (starEach es X.env)).any (·.1) = false := by rfl)
    (ht : eval (.Call (.Attribute o m apos) (e :: es) [] pos) X.env = (do
      let ov ← eval o X.env
      standAt apos.atName
      let (f, first) ← holding [ov] (getMethod ov m pl)
      callWith pos f first (backTo pos (starEach (e :: es) X.env)) (backToKw pos (keywordEach [] X.env))) := by rfl) :
    PE X (.Call (.Attribute o m apos) (e :: es) [] pos) (tMetS C m sp dvs E ta t) := by
  refine ⟨fun pins s σ H Q I h => ?_⟩
  refine PySem.W.methodCall_KW (pl := pl) (thn (he.run pins s σ H _ I h) fun u s1 ⟨x, H1, I1, rx, a, dx, fs, ex, ea, l, q⟩ => ?_) ht
  subst ex
  obtain rfl : u = Value.ref a := rx
  refine getmeth_ok I1 ea c hm l ?_
  refine PySem.W.callWith_K (first := [.ref a]) (h₀ := X.base) I.ok.mod.kin hm.kp (thn (ha.run pos pins s1 σ H1 _ I1 q) fun us s2 ⟨vs, H2, I2, r, q2⟩ => ⟨I2.kIn, ?_⟩) hst hpl
  exact runS (us := .ref a :: us) (vs := .ref a :: vs) F hr hb hd (hx σ) I2 (.cons rfl r) q2
theorem pmS0 {pl : Sem Bool} (he : PE X o ta) (c : Cls X.K C) (hm : Meth X.K C m f) (F : FnOk X.prog X.w X.K X.mg X.base CX k f fd ps sp) (hr : Room k X.A) (hb : L2.Binds X.K fd ps ds) (hd : Vals dvs ds) (hx : ∀ σ, PassesAt CX X σ (E σ))
    (ht : eval (.Call (.Attribute o m apos) [] [] pos) X.env = (do
      let ov ← eval o X.env
      standAt apos.atName
      let (f, first) ← holding [ov] (getMethod ov m pl)
      callWith pos f first (backTo pos (starEach [] X.env)) (backToKw pos (keywordEach [] X.env))) := by rfl) :
    PE X (.Call (.Attribute o m apos) [] [] pos) (tMetS C m sp dvs E ta tNil) := by
  refine ⟨fun pins s σ H Q I h => ?_⟩
  refine PySem.W.methodCall_KW (pl := pl) (thn (he.run pins s σ H _ I h) fun u s1 ⟨x, H1, I1, rx, a, dx, fs, ex, ea, l, q⟩ => ?_) ht
  subst ex
  obtain rfl : u = Value.ref a := rx
  refine getmeth_ok I1 ea c hm l ?_
  exact PySem.W.callWith_K0 (first := [.ref a]) I1.kIn hm.kp (runS (us := [.ref a]) (vs := [.ref a]) F hr hb hd (hx σ) I1 (.cons rfl .nil) q)
def tMakS (C : Addr) (sp : Sp) (dvs : List V) (E : L2.St → XK) (t : TA) : TE := fun σ H Q => t σ H fun vs H1 => ∀ x dx, H1 x = none → H1 dx = none → dx ≠ x →
  sp (.ref x :: (vs ++ dvs)) (upd (upd H1 dx (.own x)) x (.ins C dx [])) (fun v H2 => v = .non ∧ Q (.ref x) H2) (E σ)
theorem runMk {pins : List (Addr × Obj)} {σ : L2.St} {H : Hp} {s : Shared} {Q : VK} {us : List Value} {vs : List V} (M : Mk X.K C f) (F : FnOk X.prog X.w X.K X.mg X.base CX k f fd ps sp) (hr : Room (k + 1) X.A) (hb : L2.Binds X.K fd ps ds) (hd : Vals dvs ds)
    (hx : PassesAt CX X σ (E σ)) (I : Inv X pins σ H s) (r : Vals vs us)
    (h : ∀ x dx, H x = none → H dx = none → dx ≠ x → sp (.ref x :: (vs ++ dvs)) (upd (upd H dx (.own x)) x (.ins C dx [])) (fun v H2 => v = .non ∧ Q (.ref x) H2) (E σ)) :
    wpAny (model X.prog X.w) X.A (call (.ref C) us) (EP X pins σ Q) X.xe s := by
  have hq := h (s.heap.objs.size + 1) s.heap.objs.size (I.hok.fresh (Nat.le_succ _)) (I.hok.fresh (Nat.le_refl _)) (Nat.ne_of_lt (Nat.lt_succ_self _))
  have I2 := Inv.made (C := C) I
  have r2 : Vals (V.ref (s.heap.objs.size + 1) :: (vs ++ dvs)) (Value.ref (s.heap.objs.size + 1) :: (us ++ ds)) := .cons rfl (r.append hd)
  have hl : (Value.ref (s.heap.objs.size + 1) :: us ++ ds).length = ps.length := by
    have e := r2.length
    rw [F.len _ _ _ _ hq] at e
    exact e.symm
  refine wpAny_call (make_map (f := f) I.kIn M.makes M.init (beq_iff_eq.mp M.fn) (codeAny_mono (F.run _ X.stack _ _ ⟨Value.ref (s.heap.objs.size + 1) :: us, []⟩ (Value.ref (s.heap.objs.size + 1) :: (us ++ ds)) _ _ (E σ) (hr.make C us [])
    (I2.env0.make C us []) (hb _ (Value.ref (s.heap.objs.size + 1) :: us) I2.kIn hl) r2 hq) fun r s' hq' => ?_))
  cases r with
  | error e => exact hx pins _ _ e s' I2 hq'
  | ok fl =>
    cases fl with
    | ret u =>
      obtain ⟨v, H', I3, rv, ev, q3⟩ := I2.after hq'
      subst ev
      exact ⟨rv, ⟨V.ref (s.heap.objs.size + 1), H', I3, rfl, q3⟩⟩
    | next => exact False.elim hq'
    | brk => exact False.elim hq'
    | cont => exact False.elim hq'
theorem pkS (M : Mk X.K C f) (F : FnOk X.prog X.w X.K X.mg X.base CX k f fd ps sp) (hr : Room (k + 1) X.A) (hg : Gl X x) (hm : X.mg x = some (.ref C)) (hb : L2.Binds X.K fd ps ds) (hd : Vals dvs ds) (hx : ∀ σ, PassesAt CX X σ (E σ))
    (ha : PA X (e :: es) t) (hdb : (x == ("__debug__" : Str)) = false := by decide) (he : starEach (e :: es) X.env = (false, eval e X.env) :: starEach es X.env := by rfl) (hpl : (backTo pos (starEach es X.env)).any (·.1) = false := by rfl) :
    PE X (.Call (.Name x p) (e :: es) [] pos) (tMakS C sp dvs E t) := by
  refine ⟨fun pins s σ H Q I h => ?_⟩
  refine wpAny_Call_Name_kw (ld_glob I hg hm ?_ hdb)
  refine PySem.W.callWith_K (h₀ := X.base) I.ok.mod.kin M.kp (thn (ha.run pos pins s σ H _ I h) fun us s1 ⟨vs, H1, I1, r, q⟩ => ⟨I1.kIn, ?_⟩) he hpl
  exact runMk M F hr hb hd (hx σ) I1 r q
theorem pkS0 (M : Mk X.K C f) (F : FnOk X.prog X.w X.K X.mg X.base CX k f fd ps sp) (hr : Room (k + 1) X.A) (hg : Gl X x) (hm : X.mg x = some (.ref C)) (hb : L2.Binds X.K fd ps ds) (hd : Vals dvs ds) (hx : ∀ σ, PassesAt CX X σ (E σ))
    (hdb : (x == ("__debug__" : Str)) = false := by decide) : PE X (.Call (.Name x p) [] [] pos) (tMakS C sp dvs E tNil) := by
  refine ⟨fun pins s σ H Q I h => ?_⟩
  refine wpAny_Call_Name_kw (ld_glob I hg hm ?_ hdb)
  exact PySem.W.callWith_K0 I.kIn M.kp (runMk (us := []) M F hr hb hd (hx σ) I .nil h)
end

/-! ### what a def of the text does with values -/
inductive FRes where
  | ok (r : O) (ps : List O)
  | ex (x : Exn)
  | bad
abbrev Fn := List O → FRes
def FW (r : FRes) (A : O → List O → Prop) (B : Exn → Prop) : Prop := match r with
  | .ok r ps => A r ps
  | .ex x => B x
  | .bad => False
def spF (K : PySem.W.Frag) (mg : Str → Option Value) (np : Nat) (f : Fn) : Sp := fun vs H Q E => vs.length = np ∧ ∃ (os : List O) (Ex : List (Addr × HO)) (T : Roots), os.length = np ∧ Rel K mg H Ex (vs.zip os ++ T) [] ∧
  FW (f os) (fun r ps => ps.length = np ∧ ∀ v H', Rel K mg H' Ex ((v, r) :: (vs.zip ps ++ T)) [] → Q v H') (fun x => ∀ H' cls d, Rel K mg H' Ex T [] → ExAt mg cls d H' x → E cls d H')
/-- a def of the module, called by its name; ds: its last parameters' defaults, by how many are not given -/
structure Callee (P : Program) (w : World) (K : PySem.W.Frag) (mg : Str → Option Value) (base : Heap) (x : Str) (k np : Nat) (dfs : List PyData) (f : Fn) : Prop where
  ex : ∃ (a : Addr) (fd : FuncData) (ps : List Str) (dvs : List V) (ds : List Value), FnOk P w K mg base (L2.CX P w) k a fd ps (spF K mg np f) ∧ mg x = some (.ref a) ∧ PySem.W.keepIn K (.ref a) = true ∧ L2.Binds K fd ps ds ∧ Vals dvs ds ∧ ∀ Hf, DpAll K Hf dvs dfs
/-- a method of the class c -/
structure Methd (P : Program) (w : World) (K : PySem.W.Frag) (mg : Str → Option Value) (base : Heap) (c m : Str) (k np : Nat) (dfs : List PyData) (f : Fn) : Prop where
  ex : ∃ (C a : Addr) (fd : FuncData) (ps : List Str) (dvs : List V) (ds : List Value), FnOk P w K mg base (L2.CX P w) k a fd ps (spF K mg np f) ∧ mg c = some (.ref C) ∧ Cls K C ∧ Meth K C m a ∧ L2.Binds K fd ps ds ∧ Vals dvs ds ∧ ∀ Hf, DpAll K Hf dvs dfs
/-- a class that is made by its __init__ -/
structure Maker (P : Program) (w : World) (K : PySem.W.Frag) (mg : Str → Option Value) (base : Heap) (c : Str) (k np : Nat) (dfs : List PyData) (f : Fn) : Prop where
  ex : ∃ (C a : Addr) (fd : FuncData) (ps : List Str) (dvs : List V) (ds : List Value), FnOk P w K mg base (L2.CX P w) k a fd ps (spF K mg np f) ∧ mg c = some (.ref C) ∧ Mk K C a ∧ L2.Binds K fd ps ds ∧ Vals dvs ds ∧ ∀ Hf, DpAll K Hf dvs dfs

/-- what a body stands on -/
structure Cc (X : Cx) (W : WX) (k : Nat) : Prop where
  tk : Takes X W
  hr : Room k X.A
  calm : X.calm = true
  nd : X.N.Nodup
  own : PySem.PassesOwn (model X.prog X.w) X.A X.env X.xe

/-! ### arguments -/
inductive Arg where
  | sl (i : Nat)
  | val (o : O)
def valR : List V → List Arg → Roots
  | v :: vs, .val o :: as => (v, o) :: valR vs as
  | _ :: vs, .sl _ :: as => valR vs as
  | _, _ => []
def SlOk (σ : L2.St) : List V → List Arg → Prop
  | v :: vs, .val _ :: as => SlOk σ vs as
  | v :: vs, .sl i :: as => σ[i]? = some (some v) ∧ SlOk σ vs as
  | [], [] => True
  | _, _ => False
def takeA : List Arg → Gs → Option (List O × Gs)
  | [], g => some ([], g)
  | .val o :: r, g => match takeA r g with
    | some (os, g') => some (o :: os, g')
    | none => none
  | .sl i :: r, g => match g[i]? with
    | some (some (.d x)) => match takeA r g with
      | some (os, g') => some (.d x :: os, g')
      | none => none
    | some (some o) => match takeA r (g.set i none) with
      | some (os, g') => some (o :: os, g')
      | none => none
    | _ => none
def giveA : List Arg → List O → Gs → Gs
  | .sl i :: r, o :: os, g => giveA r os (match g[i]? with
    | some none => g.set i (some o)
    | _ => g)
  | .val _ :: r, _ :: os, g => giveA r os g
  | _, _, g => g
section
variable {X : Cx} {W : WX} {pu pv : Bool} {H H' : Hp} {Ex : List (Addr × HO)} {σ : L2.St} {g : Gs} {T T' ws ws' : Roots} {e a b : Expr} {es : List Expr} {m : M O} {pos : Pos}
structure EvU (X : Cx) (W : WX) (es : List Expr) (m : M (List Arg)) : Prop where
  ex : ∃ ts, PEs X es ts ∧ ∀ (σ : L2.St) (H : Hp) (Q : List V → Hp → Prop) (g : Gs) (T : Roots) (Ex : List (Addr × HO)) (ws : Roots), At X H Ex σ g T ws →
    Wp (m g) (fun as g' => ∀ vs H', vs.length = es.length → SlOk σ vs as → At X H' Ex σ g' (valR vs as ++ T) [] → Q vs H')
      (fun x g' => ∀ H' cls d, At X H' Ex σ g' T [] → ExAt X.mg cls d H' x → W cls d σ H') → tAll ts σ H Q
theorem At.noV (a : At X H Ex σ g T ws) : At X H Ex σ g T [] := a.views fun _ h => nomatch h
theorem eu_nil : EvU X W [] (M.ret []) := ⟨[], .nil, fun σ H Q g T Ex ws a w => w [] H rfl trivial a.noV⟩
def valA (m : M O) (ms : M (List Arg)) : M (List Arg) := M.bd m fun o => M.bd ms fun as => M.ret (.val o :: as)
def slA (i : Nat) (ms : M (List Arg)) : M (List Arg) := M.bd ms fun as => M.ret (.sl i :: as)
theorem eu_val {ms : M (List Arg)} (h : Ev X W pu e m) (hs : EvU X W es ms) (st : starEach (e :: es) X.env = (false, eval e X.env) :: starEach es X.env := by rfl) : EvU X W (e :: es) (valA m ms) := by
  obtain ⟨t, h1, h2⟩ := h.ex
  obtain ⟨ts, g1, g2⟩ := hs.ex
  refine ⟨t :: ts, .cons h1 st g1, fun σ H Q g T Ex ws a w => ?_⟩
  refine h2 σ H _ g T Ex ws a (w.bd.imp (fun o g' k v H' s a' => ?_) fun _ _ k => k)
  refine g2 σ H' _ g' _ Ex _ a' (k.bd.imp (fun as g2 k vs H2 hl sl a2 => ?_) fun x g2 k H2 cls d a2 => k H2 cls d a2.drop)
  exact k (v :: vs) H2 (by simp [hl]) sl (a2.perm permIn)
def slIn (i : Nat) (ms : M (List Arg)) : M (List Arg) := fun g => match g[i]? with
  | some (some _) => slA i ms g
  | _ => .bad
theorem eu_sl (i : Nat) {ms : M (List Arg)} {x : Str} (hs : EvU X W es ms) (hN : X.N[i]? = some x := by rfl) (hv : Vis X.env.scope x := by first | exact Or.inl rfl | exact Or.inr (Or.inl rfl) | exact Or.inr (Or.inr rfl)) (hd : (x == ("__debug__" : Str)) = false := by decide)
    (hcd : (x == ("__classdict__" : Str)) = false := by decide) (st : starEach (.Name x pos :: es) X.env = (false, eval (.Name x pos) X.env) :: starEach es X.env := by rfl) : EvU X W (.Name x pos :: es) (slIn i ms) := by
  obtain ⟨ts, g1, g2⟩ := hs.ex
  refine ⟨_ :: ts, .cons (pv i hN hv hd hcd) st g1, fun σ H Q g T Ex ws a w => ?_⟩
  unfold slIn at w
  split at w
  · rename_i o hg
    obtain ⟨v, hv⟩ := a.fit.at_ _ _ hg
    refine ⟨v, hv, ?_⟩
    exact g2 σ H _ g _ Ex _ a (w.bd.imp (fun as g2 k vs H2 hl sl a2 => k (v :: vs) H2 (by simp [hl]) ⟨hv, sl⟩ a2) fun x g2 k H2 cls d a2 => k H2 cls d a2)
  · exact w.elim
theorem takeRel {as : List Arg} : ∀ {vs : List V} {g g' : Gs} {os : List O}, SlOk σ vs as → Fit σ g → Rel X.K X.mg H Ex (roots σ g ++ (valR vs as ++ T)) [] → takeA as g = some (os, g') →
    vs.length = os.length ∧ Fit σ g' ∧ Rel X.K X.mg H Ex (roots σ g' ++ (vs.zip os ++ T)) [] := by
  induction as generalizing T with
  | nil =>
    intro vs g g' os sl f r h
    cases vs with
    | nil =>
      simp only [takeA, Option.some.injEq, Prod.mk.injEq] at h
      obtain ⟨rfl, rfl⟩ := h
      exact ⟨rfl, f, r⟩
    | cons v vs => exact sl.elim
  | cons c r ih =>
    intro vs g g' os sl f rl h
    cases vs with
    | nil => cases c <;> exact sl.elim
    | cons v vs =>
      cases c with
      | val o =>
        simp only [takeA] at h
        cases q : takeA r g with
        | none => rw [q] at h; cases h
        | some p =>
          obtain ⟨os1, g1⟩ := p
          rw [q] at h
          cases h
          have rl' : Rel X.K X.mg H Ex (roots σ g ++ (valR vs r ++ ((v, o) :: T))) [] := rl.perm ((permIn (p := (v, o)) (l := valR vs r) (T := T)).symm.append_left _)
          obtain ⟨h1, h2, h3⟩ := ih (T := (v, o) :: T) (vs := vs) sl f rl' q
          exact ⟨by simp [h1], h2, h3.perm (permIn.append_left _)⟩
      | sl i =>
        obtain ⟨hv, sl⟩ := sl
        simp only [takeA] at h
        split at h
        · rename_i x hg
          cases q : takeA r g with
          | none => rw [q] at h; cases h
          | some p =>
            obtain ⟨os1, g1⟩ := p
            rw [q] at h
            cases h
            have a : At X H Ex σ g (valR vs r ++ T) [] := ⟨f, rl⟩
            have rl' : Rel X.K X.mg H Ex (roots σ g ++ (valR vs r ++ ((v, .d x) :: T))) [] := (a.rd hg hv).rel.perm (List.perm_middle.symm.append_left _)
            obtain ⟨h1, h2, h3⟩ := ih (T := (v, .d x) :: T) (vs := vs) sl f rl' q
            exact ⟨by simp [h1], h2, h3.perm (permIn.append_left _)⟩
        · rename_i o hno hg
          cases q : takeA r (g.set i none) with
          | none => rw [q] at h; cases h
          | some p =>
            obtain ⟨os1, g1⟩ := p
            rw [q] at h
            cases h
            have a : At X H Ex σ g (valR vs r ++ T) [] := ⟨f, rl⟩
            have r2 := a.get hg hv
            have rl' : Rel X.K X.mg H Ex (roots σ (g.set i none) ++ (valR vs r ++ ((v, o) :: T))) [] := by
              refine r2.perm ?_
              exact (List.perm_middle (l₁ := roots σ (g.set i none)) (a := (v, o)) (l₂ := valR vs r ++ T)).symm.trans (List.perm_middle.symm.append_left _)
            obtain ⟨h1, h2, h3⟩ := ih (T := (v, o) :: T) (vs := vs) sl (f.clr i) rl' q
            exact ⟨by simp [h1], h2, h3.perm (permIn.append_left _)⟩
        · cases h
theorem giveRel {as : List Arg} : ∀ {vs : List V} {g : Gs} {os : List O}, SlOk σ vs as → vs.length = os.length → Fit σ g → Rel X.K X.mg H Ex (roots σ g ++ (vs.zip os ++ T)) [] → At X H Ex σ (giveA as os g) T [] := by
  induction as generalizing T with
  | nil =>
    intro vs g os sl hl f r
    cases vs with
    | nil => exact ⟨f, r⟩
    | cons v vs => exact sl.elim
  | cons c r ih =>
    intro vs g os sl hl f rl
    cases vs with
    | nil => cases c <;> exact sl.elim
    | cons v vs =>
      cases os with
      | nil => simp at hl
      | cons o os =>
        have hl' : vs.length = os.length := by simpa using hl
        have rl1 : Rel X.K X.mg H Ex ((v, o) :: (roots σ g ++ (vs.zip os ++ T))) [] := rl.perm List.perm_middle
        cases c with
        | val o' => exact ih (vs := vs) sl hl' f rl1.drop
        | sl i =>
          obtain ⟨hv, sl⟩ := sl
          simp only [giveA]
          split
          · rename_i hg
            have e : g.set i none = g := setNone (by intro o; rw [hg]; simp)
            have a : At X H Ex σ (g.set i (some o)) (vs.zip os ++ T) [] := .put f hv (by rw [e]; exact rl1)
            exact ih (vs := vs) sl hl' a.fit a.rel
          · exact ih (vs := vs) sl hl' f rl1.drop
/-- a call: owned values of names are lent and come back as they are left -/
def callM (f : Fn) (dfs : List PyData) (ms : M (List Arg)) : M O := M.bd ms fun as g => match takeA as g with
  | some (os, g') => match f (os ++ dfs.map O.d) with
    | .ok r ps => if ps.length = (os ++ dfs.map O.d).length then .ok r (giveA as (ps.take os.length) g') else .bad
    | .ex x => .ex x g'
    | .bad => .bad
  | none => .bad
theorem relDfs {K : PySem.W.Frag} {mg : Str → Option Value} {rs : Roots} : ∀ {dvs : List V} {dfs : List PyData}, (∀ Hf, DpAll K Hf dvs dfs) → Rel K mg H Ex rs ws → Rel K mg H Ex (dvs.zip (dfs.map O.d) ++ rs) ws ∧ dvs.length = dfs.length
  | [], [], _, r => ⟨r, rfl⟩
  | [], _ :: _, h, _ => by cases h (fun _ => none)
  | _ :: _, [], h, _ => by cases h (fun _ => none)
  | v :: dvs, x :: dfs, h, r => by
    have h1 : ∀ Hf, Dp K Hf v x := fun Hf => by cases h Hf with | cons a b => exact a
    have h2 : ∀ Hf, DpAll K Hf dvs dfs := fun Hf => by cases h Hf with | cons a b => exact b
    obtain ⟨q, l⟩ := relDfs h2 r
    exact ⟨q.data h1, by simp [l]⟩
theorem callCore {f : Fn} {dfs : List PyData} {dvs : List V} {as : List Arg} {vs : List V} {np : Nat} {Q : VK} (hd : ∀ Hf, DpAll X.K Hf dvs dfs) (sl : SlOk σ vs as) (a : At X H Ex σ g (valR vs as ++ T) []) (hn : (vs ++ dvs).length = np)
    (w : Wp ((fun g => match takeA as g with
      | some (os, g') => match f (os ++ dfs.map O.d) with
        | .ok r ps => if ps.length = (os ++ dfs.map O.d).length then .ok r (giveA as (ps.take os.length) g') else .bad
        | .ex x => .ex x g'
        | .bad => .bad
      | none => .bad : M O) g) (fun o g' => ∀ v H', At X H' Ex σ g' ((v, o) :: T) [] → Q v H') (fun x g' => ∀ H' cls d, At X H' Ex σ g' T [] → ExAt X.mg cls d H' x → W cls d σ H')) :
    spF X.K X.mg np f (vs ++ dvs) H Q (WE W σ) := by
  refine ⟨hn, ?_⟩
  simp only at w
  cases q : takeA as g with
  | none => rw [q] at w; exact w.elim
  | some p =>
    obtain ⟨os, g'⟩ := p
    rw [q] at w
    simp only at w
    obtain ⟨h1, h2, h3⟩ := takeRel sl a.fit a.rel q
    obtain ⟨h4, h5⟩ := relDfs hd h3
    have hz : (vs ++ dvs).zip (os ++ dfs.map O.d) = vs.zip os ++ dvs.zip (dfs.map O.d) := List.zip_append h1
    have hlen : (os ++ dfs.map O.d).length = np := by rw [← hn]; simp [h1, h5]
    refine ⟨os ++ dfs.map O.d, Ex, roots σ g' ++ T, hlen, ?_, ?_⟩
    · rw [hz, List.append_assoc]
      exact h4.perm (((List.perm_append_comm_assoc _ _ _).append_left _).trans (List.perm_append_comm_assoc _ _ _))
    · cases q2 : f (os ++ dfs.map O.d) with
      | bad => rw [q2] at w; exact w.elim
      | ex x =>
        rw [q2] at w
        intro H' cls d r2 xa
        exact w H' cls d ⟨h2, r2⟩ xa
      | ok r ps =>
        rw [q2] at w
        simp only [FW]
        by_cases hps : ps.length = (os ++ dfs.map O.d).length
        · simp only [hps, if_true] at w
          rw [hlen] at hps
          refine ⟨hps, fun v H' r2 => ?_⟩
          have e1 : ps = ps.take os.length ++ ps.drop os.length := (List.take_append_drop _ _).symm
          have hl2 : vs.length = (ps.take os.length).length := by
            rw [List.length_take, hps, ← hlen, h1]
            simp
          have hz2 : (vs ++ dvs).zip ps = vs.zip (ps.take os.length) ++ dvs.zip (ps.drop os.length) := by
            conv => lhs; rw [e1]
            exact List.zip_append hl2
          rw [hz2] at r2
          refine w v H' ?_
          refine giveRel (T := (v, r) :: T) sl hl2 h2 ?_
          have r3 : Rel X.K X.mg H' Ex (dvs.zip (ps.drop os.length) ++ (roots σ g' ++ (vs.zip (ps.take os.length) ++ (v, r) :: T))) [] := by
            refine r2.perm (List.Perm.symm ?_)
            rw [List.append_assoc]
            refine ((List.perm_middle.append_left _).append_left _).trans ?_
            refine (List.perm_middle.append_left _).trans ?_
            refine List.perm_middle.trans (.cons _ ?_)
            exact ((List.perm_append_comm_assoc _ _ _).append_left _).trans (List.perm_append_comm_assoc _ _ _)
          exact r3.dropL
        · simp only [hps, if_false] at w
          exact w.elim
end
end Z

namespace Z
open PySem PySem.Spec L2
abbrev Ck (X : Cx) := X.prog
section
variable {X : Cx} {W : WX} {pu pv : Bool} {H H' : Hp} {Ex : List (Addr × HO)} {σ σ' : L2.St} {g : Gs} {T T' ws ws' : Roots} {e a b o : Expr} {es : List Expr} {m : M O} {pos p apos : Pos} {k j np : Nat} {x : Str} {dfs : List PyData} {f : Fn} {ms : M (List Arg)}
theorem dpLen {K : PySem.W.Frag} {Hf : Hp} : ∀ {vs : List V} {ds : List PyData}, DpAll K Hf vs ds → vs.length = ds.length
  | _, _, .nil => rfl
  | _, _, .cons _ t => by simp [dpLen t]
theorem Wp.rt {α : Type} {x : α} {A : α → Gs → Prop} {B : Exn → Gs → Prop} (h : Wp (M.ret x g) A B) : A x g := h
theorem ev_call (c : Cc X W k) (cal : Callee X.prog X.w X.K X.mg X.base x j np dfs f) (hj : j ≤ k) (hg : Gl X x) (h : EvU X W (e :: es) ms) (hn : (e :: es).length + dfs.length = np := by rfl)
    (hdb : (x == ("__debug__" : Str)) = false := by decide) (he : starEach (e :: es) X.env = (false, eval e X.env) :: starEach es X.env := by rfl) (hpl : (backTo pos (starEach es X.env)).any (·.1) = false := by rfl) :
    Ev X W false (.Call (.Name x p) (e :: es) [] pos) (callM f dfs ms) := by
  obtain ⟨C, fd, ps, dvs, ds, F, hm, hk, hb, hd, hdd⟩ := cal.ex
  obtain ⟨ts, g1, g2⟩ := h.ex
  refine ⟨_, pcS F (c.hr.mono hj) hg hm hk hb hd (fun σ => passAt c.tk σ) g1.pa hdb he hpl, fun σ H Q g T Ex ws a w => ?_⟩
  refine g2 σ H _ g T Ex ws a (w.bd.imp (fun as g' k vs H' hl sl a' => ?_) fun _ _ k => k)
  refine callCore hdd sl a' (by rw [List.length_append, hl, dpLen (hdd fun _ => none)]; exact hn) (k.imp (fun o g2 k v H2 a2 => k v H2 (fun z => by cases z) a2) fun _ _ k => k)
theorem ev_call0 (c : Cc X W k) (cal : Callee X.prog X.w X.K X.mg X.base x j np dfs f) (hj : j ≤ k) (hg : Gl X x) (hn : dfs.length = np := by rfl)
    (hdb : (x == ("__debug__" : Str)) = false := by decide) : Ev X W false (.Call (.Name x p) [] [] pos) (callM f dfs (M.ret [])) := by
  obtain ⟨C, fd, ps, dvs, ds, F, hm, hk, hb, hd, hdd⟩ := cal.ex
  refine ⟨_, pcS0 F (c.hr.mono hj) hg hm hk hb hd (fun σ => passAt c.tk σ) hdb, fun σ H Q g T Ex ws a w => ?_⟩
  refine callCore (as := []) (vs := []) hdd trivial a.noV (by rw [List.nil_append, dpLen (hdd fun _ => none)]; exact hn) (w.bd.rt.imp (fun o g2 k v H2 a2 => k v H2 (fun z => by cases z) a2) fun _ _ k => k)
/-! ### methods of what stands at a name -/
def noKey {α : Type} (m : Str) (fs : List (Str × α)) : Bool := !((fs.map (·.1)).contains m)
theorem noKeyLook {α β : Type} {m : Str} {fs : List (Str × α)} {gs : List (Str × β)} (h : noKey m fs = true) (e : gs.map (·.1) = fs.map (·.1)) : gs.lookup m = none := by
  unfold noKey at h
  rw [← e] at h
  rw [List.lookup_eq_none_iff]
  intro q hq
  have h' : ¬ (gs.map (·.1)).contains m = true := by simpa using h
  have : m ≠ q.1 := fun z => h' (by rw [List.contains_iff_mem]; exact List.mem_map.mpr ⟨q, hq, z.symm⟩)
  simpa using this
def methM (c m : Str) (i : Nat) (f : Fn) (dfs : List PyData) (ms : M (List Arg)) : M O := fun g => match g[i]? with
  | some (some (.ins c' fos)) => if c' = c ∧ noKey m fos = true then callM f dfs (slA i ms) g else .bad
  | _ => .bad
theorem viewIns {K : PySem.W.Frag} {mg : Str → Option Value} {rs : Roots} {v : V} {c : Str} {fos : List (Str × O)} (r : Rel K mg H Ex rs ((v, .ins c fos) :: ws)) : ∃ a C dx fvs, v = .ref a ∧ H a = some (.ins C dx fvs) ∧ mg c = some (.ref C) ∧ fvs.map (·.1) = fos.map (·.1) := by
  obtain ⟨Hf, as, s, he, ho, nd, hn, hw⟩ := r.ex
  obtain ⟨bs, h⟩ := hw _ List.mem_cons_self
  cases h with
  | ins h c k t => exact ⟨_, _, _, _, rfl, h, c, k⟩
theorem ev_meth {c mn : Str} {xn : Str} (i : Nat) {pl : Sem Bool} (cc : Cc X W k) (md : Methd X.prog X.w X.K X.mg X.base c mn j np dfs f) (hj : j ≤ k) (h : EvU X W (e :: es) ms) (hn : (e :: es).length + dfs.length + 1 = np := by rfl)
    (hN : X.N[i]? = some xn := by rfl) (hv : Vis X.env.scope xn := by first | exact Or.inl rfl | exact Or.inr (Or.inl rfl) | exact Or.inr (Or.inr rfl)) (hdd1 : (xn == ("__debug__" : Str)) = false := by decide) (hcd : (xn == ("__classdict__" : Str)) = false := by decide)
    (hst : starEach (e :: es) X.env = (false, eval e X.env) :: starEach es X.env := by rfl) (hpl : (backTo pos (starEach es X.env)).any (·.1) = false := by rfl)
    (ht : eval (.Call (.Attribute (.Name xn p) mn apos) (e :: es) [] pos) X.env = (do
      let ov ← eval (.Name xn p) X.env
      standAt apos.atName
      let (f, first) ← holding [ov] (getMethod ov mn pl)
      callWith pos f first (backTo pos (starEach (e :: es) X.env)) (backToKw pos (keywordEach [] X.env))) := by rfl) :
    Ev X W false (.Call (.Attribute (.Name xn p) mn apos) (e :: es) [] pos) (methM c mn i f dfs ms) := by
  obtain ⟨C, fa, fd, ps, dvs, ds, F, hm, hC, hk, hb, hd, hdd⟩ := md.ex
  obtain ⟨ts, g1, g2⟩ := h.ex
  refine ⟨_, pmS (pv i hN hv hdd1 hcd) hC hk F (cc.hr.mono hj) hb hd (fun σ => passAt cc.tk σ) g1.pa hst hpl ht, fun σ H Q g T Ex ws a w => ?_⟩
  unfold methM at w
  split at w
  · rename_i c' fos hg
    split at w
    · rename_i hcn
      obtain ⟨rfl, hnk⟩ := hcn
      obtain ⟨v, hv⟩ := a.fit.at_ _ _ hg
      obtain ⟨ad, C', dx, fvs, e1, e2, e3, e4⟩ := viewIns (a.pk hg hv).rel
      rw [hm] at e3
      cases e3
      refine ⟨v, hv, ad, dx, fvs, e1, e2, noKeyLook hnk e4, ?_⟩
      refine g2 σ H _ g T Ex ws a (w.bd.bd.imp (fun as g' k vs H' hl sl a' => ?_) fun _ _ k => k)
      have k' : Wp _ _ _ := k.rt
      refine callCore (vs := v :: vs) (as := .sl i :: as) hdd ⟨hv, sl⟩ a' ?_ (k'.imp (fun o g2 k v H2 a2 => k v H2 (fun z => by cases z) a2) fun _ _ k => k)
      rw [List.length_append, List.length_cons, hl, dpLen (hdd fun _ => none)]
      rw [← hn]
      omega
    · exact w.elim
  · exact w.elim
theorem ev_meth0 {c mn : Str} {xn : Str} (i : Nat) {pl : Sem Bool} (cc : Cc X W k) (md : Methd X.prog X.w X.K X.mg X.base c mn j np dfs f) (hj : j ≤ k) (hn : dfs.length + 1 = np := by rfl)
    (hN : X.N[i]? = some xn := by rfl) (hv : Vis X.env.scope xn := by first | exact Or.inl rfl | exact Or.inr (Or.inl rfl) | exact Or.inr (Or.inr rfl)) (hdd1 : (xn == ("__debug__" : Str)) = false := by decide) (hcd : (xn == ("__classdict__" : Str)) = false := by decide)
    (ht : eval (.Call (.Attribute (.Name xn p) mn apos) [] [] pos) X.env = (do
      let ov ← eval (.Name xn p) X.env
      standAt apos.atName
      let (f, first) ← holding [ov] (getMethod ov mn pl)
      callWith pos f first (backTo pos (starEach [] X.env)) (backToKw pos (keywordEach [] X.env))) := by rfl) :
    Ev X W false (.Call (.Attribute (.Name xn p) mn apos) [] [] pos) (methM c mn i f dfs (M.ret [])) := by
  obtain ⟨C, fa, fd, ps, dvs, ds, F, hm, hC, hk, hb, hd, hdd⟩ := md.ex
  refine ⟨_, pmS0 (pv i hN hv hdd1 hcd) hC hk F (cc.hr.mono hj) hb hd (fun σ => passAt cc.tk σ) ht, fun σ H Q g T Ex ws a w => ?_⟩
  unfold methM at w
  split at w
  · rename_i c' fos hg
    split at w
    · rename_i hcn
      obtain ⟨rfl, hnk⟩ := hcn
      obtain ⟨v, hv⟩ := a.fit.at_ _ _ hg
      obtain ⟨ad, C', dx, fvs, e1, e2, e3, e4⟩ := viewIns (a.pk hg hv).rel
      rw [hm] at e3
      cases e3
      refine ⟨v, hv, ad, dx, fvs, e1, e2, noKeyLook hnk e4, ?_⟩
      have k' : Wp _ _ _ := w.bd.bd.rt.rt
      refine callCore (vs := [v]) (as := [.sl i]) hdd ⟨hv, trivial⟩ a.noV ?_ (k'.imp (fun o g2 k v H2 a2 => k v H2 (fun z => by cases z) a2) fun _ _ k => k)
      rw [List.length_append, dpLen (hdd fun _ => none), ← hn, List.length_singleton]
      omega
    · exact w.elim
  · exact w.elim

/-! ### statements -/
inductive Fl where
  | next
  | ret (o : O)
  | brk
  | cnt
def Pin (np : Nat) (σ σ' : L2.St) : Prop := ∀ i, i < np → σ'[i]? = σ[i]?
theorem Pin.refl {σ : L2.St} : Pin np σ σ := fun _ _ => rfl
theorem Pin.trans {σ σ1 σ2 : L2.St} (a : Pin np σ σ1) (b : Pin np σ1 σ2) : Pin np σ σ2 := fun i h => (b i h).trans (a i h)
theorem Pin.set {σ : L2.St} {i : Nat} {v : Option V} (h : np ≤ i) : Pin np σ (σ.set i v) := fun j hj => List.getElem?_set_ne (by omega)
def SPost (X : Cx) (np : Nat) (σ : L2.St) (T : Roots) (Ex : List (Addr × HO)) (D : Ends) : Fl → Gs → Prop
  | .next, g' => ∀ σ' H', Pin np σ σ' → At X H' Ex σ' g' T [] → D.nx σ' H'
  | .ret o, g' => ∀ v σ' H', Pin np σ σ' → At X H' Ex σ' g' ((v, o) :: T) [] → D.rt v H'
  | .brk, g' => ∀ σ' H', Pin np σ σ' → At X H' Ex σ' g' T [] → D.bk σ' H'
  | .cnt, g' => ∀ σ' H', Pin np σ σ' → At X H' Ex σ' g' T [] → D.ct σ' H'
def XPost (X : Cx) (W : WX) (np : Nat) (σ : L2.St) (T : Roots) (Ex : List (Addr × HO)) : Exn → Gs → Prop :=
  fun x g' => ∀ σ' H' cls d, Pin np σ σ' → At X H' Ex σ' g' T [] → ExAt X.mg cls d H' x → W cls d σ' H'
structure EvS (X : Cx) (W : WX) (np : Nat) (st : Stmt) (m : M Fl) : Prop where
  ex : ∃ t, PS X st t ∧ ∀ (σ : L2.St) (H : Hp) (D : Ends) (g : Gs) (T : Roots) (Ex : List (Addr × HO)), At X H Ex σ g T [] → Wp (m g) (SPost X np σ T Ex D) (XPost X W np σ T Ex) → t D σ H
structure EvSs (X : Cx) (W : WX) (np : Nat) (st : List Stmt) (m : M Fl) : Prop where
  ex : ∃ t, PSs X st t ∧ ∀ (σ : L2.St) (H : Hp) (D : Ends) (g : Gs) (T : Roots) (Ex : List (Addr × HO)), At X H Ex σ g T [] → Wp (m g) (SPost X np σ T Ex D) (XPost X W np σ T Ex) → t D σ H
theorem SPost.pin {D : Ends} {fl : Fl} {g' : Gs} {σ1 : L2.St} (h : SPost X np σ T Ex D fl g') (p : Pin np σ σ1) : SPost X np σ1 T Ex D fl g' := by
  cases fl with
  | next => exact fun σ' H' q a => h σ' H' (p.trans q) a
  | ret o => exact fun v σ' H' q a => h v σ' H' (p.trans q) a
  | brk => exact fun σ' H' q a => h σ' H' (p.trans q) a
  | cnt => exact fun σ' H' q a => h σ' H' (p.trans q) a
theorem XPost.pin {x : Exn} {g' : Gs} {σ1 : L2.St} (h : XPost X W np σ T Ex x g') (p : Pin np σ σ1) : XPost X W np σ1 T Ex x g' := fun σ' H' cls d q a e => h σ' H' cls d (p.trans q) a e
section
variable {st : Stmt} {rest : List Stmt} {ma mb : M Fl} {mo : M O}
theorem ess_nil : EvSs X W np [] (M.ret .next) := ⟨_, pss_nil, fun σ H D g T Ex a w => w σ H .refl a⟩
def seqM (m n : M Fl) : M Fl := M.bd m fun fl => match fl with
  | .next => n
  | .ret o => M.ret (.ret o)
  | .brk => M.ret .brk
  | .cnt => M.ret .cnt
theorem ess_one (h : EvS X W np st ma) : EvSs X W np [st] ma := by
  obtain ⟨t, h1, h2⟩ := h.ex
  exact ⟨t, pss_one h1, h2⟩
theorem ess_cons (h : EvS X W np st ma) (hs : EvSs X W np rest mb) : EvSs X W np (st :: rest) (seqM ma mb) := by
  obtain ⟨t, h1, h2⟩ := h.ex
  obtain ⟨u, g1, g2⟩ := hs.ex
  refine ⟨_, pss_cons h1 g1, fun σ H D g T Ex a w => h2 σ H _ g T Ex a (w.bd.imp (fun fl g' k => ?_) fun x g' k => k)⟩
  cases fl with
  | next => exact fun σ' H' p a' => g2 σ' H' D g' T Ex a' (k.imp (fun fl g2 k => k.pin p) fun x g2 k => k.pin p)
  | ret o => exact k
  | brk => exact k
  | cnt => exact k
theorem es_pass : EvS X W np (.Pass pos) (M.ret .next) := ⟨_, ps_pass, fun σ H D g T Ex a w => w σ H .refl a⟩
theorem es_break : EvS X W np (.Break pos) (M.ret .brk) := ⟨_, ps_break, fun σ H D g T Ex a w => w σ H .refl a⟩
theorem es_continue : EvS X W np (.Continue pos) (M.ret .cnt) := ⟨_, ps_continue, fun σ H D g T Ex a w => w σ H .refl a⟩
def retM (m : M O) : M Fl := M.bd m fun o => M.ret (.ret o)
theorem es_ret (h : Ev X W pu e mo) : EvS X W np (.Return (some e) pos) (retM mo) := by
  obtain ⟨t, h1, h2⟩ := h.ex
  exact ⟨_, ps_ret h1, fun σ H D g T Ex a w => h2 σ H _ g T Ex [] a (w.bd.imp (fun o g' k v H' s a' => k v σ H' .refl a'.noV) fun x g' k H' cls d a' e => k σ H' cls d .refl a' e)⟩
theorem es_retN : EvS X W np (.Return none pos) (M.ret (.ret (.d .none))) := ⟨_, ps_retN, fun σ H D g T Ex a w => w .non σ H .refl (a.data fun _ => .non)⟩
def dropM (m : M O) : M Fl := M.bd m fun _ => M.ret .next
theorem es_expr (h : Ev X W pu e mo) (hs : swapsWith e none pos.line X.env = pure false := by rfl) : EvS X W np (.Expr e pos) (dropM mo) := by
  obtain ⟨t, h1, h2⟩ := h.ex
  exact ⟨_, ps_expr h1 hs, fun σ H D g T Ex a w => h2 σ H _ g T Ex [] a (w.bd.imp (fun o g' k v H' s a' => k σ H' .refl a'.drop.noV) fun x g' k H' cls d a' e => k σ H' cls d .refl a' e)⟩
theorem es_if {c : Expr} {A B : List Stmt} {mc : M Bool} (hc : EvT X W pu c mc) (ha : EvSs X W np A ma) (hb : EvSs X W np B mb) : EvS X W np (.If c A B pos) (ifM mc ma mb) := by
  obtain ⟨tc, c1, c2⟩ := hc.ex
  obtain ⟨ta, a1, a2⟩ := ha.ex
  obtain ⟨tb, b1, b2⟩ := hb.ex
  refine ⟨_, ps_if c1 a1 b1, fun σ H D g T Ex a w => c2 σ H _ g T Ex [] a (w.bd.imp (fun c g' k H' s a' => ?_) fun x g' k H' cls d a' e => k σ H' cls d .refl a' e)⟩
  cases c with
  | true => exact iteT (a2 σ H' D g' T Ex a'.noV k)
  | false => exact iteF (b2 σ H' D g' T Ex a'.noV k)
/-! targets -/
structure EvG (X : Cx) (W : WX) (np : Nat) (tg : Expr) (f : O → M Unit) : Prop where
  ex : ∃ t, PG X tg t ∧ ∀ (σ : L2.St) (H : Hp) (Q : L2.St → Hp → Prop) (g : Gs) (T : Roots) (Ex : List (Addr × HO)) (v : V) (o : O), At X H Ex σ g ((v, o) :: T) [] →
    Wp (f o g) (fun _ g' => ∀ σ' H', Pin np σ σ' → At X H' Ex σ' g' T [] → Q σ' H') (XPost X W np σ T Ex) → t v σ H Q
def setM (i : Nat) (o : O) : M Unit := fun g => .ok () (g.set i (some o))
theorem At.store {i : Nat} {v : V} {o : O} (a : At X H Ex σ g ((v, o) :: T) ws) (hi : i < σ.length) : At X H Ex (σ.set i (some v)) (g.set i (some o)) T ws := ⟨a.fit.set i v (some o), a.rel.setAt a.fit hi⟩
theorem At.storeAny {i : Nat} {v : V} {o : O} (a : At X H Ex σ g ((v, o) :: T) ws) : At X H Ex (σ.set i (some v)) (g.set i (some o)) T ws := by
  by_cases hi : i < σ.length
  · exact a.store hi
  · have e1 : σ.set i (some v) = σ := List.set_eq_of_length_le (by omega)
    have e2 : g.set i (some o) = g := List.set_eq_of_length_le (by rw [← a.fit.len]; omega)
    rw [e1, e2]
    exact a.drop
theorem eg_name (i : Nat) {x : Str} (hnp : np ≤ i) (hN : X.N.Nodup) (hi : X.N[i]? = some x) (hx : Loc X.env.scope x) (hf : X.fn x = true ∨ X.env.scope.names.lookup x = some .local := by first | exact .inl rfl | exact .inr rfl | assumption) : EvG X W np (.Name x pos) (setM i) :=
  ⟨_, pg_name hN hi hx hf, fun σ H Q g T Ex v o a w => w _ _ (Pin.set hnp) a.storeAny⟩
def asgM (m : M O) (f : O → M Unit) : M Fl := M.bd m fun o => M.bd (f o) fun _ => M.ret .next
theorem es_set (i : Nat) {x : Str} {pos' : Pos} (hnp : np ≤ i) (hN : X.N.Nodup) (hi : X.N[i]? = some x) (hx : Loc X.env.scope x) (h : Ev X W pu e mo) (hs : swapsWith e (some (.Name x pos')) pos.line X.env = pure false := by rfl) (hf : X.fn x = true ∨ X.env.scope.names.lookup x = some .local := by first | exact .inl rfl | exact .inr rfl | assumption) :
    EvS X W np (.Assign [.Name x pos'] e pos) (asgM mo (setM i)) := by
  obtain ⟨t, h1, h2⟩ := h.ex
  exact ⟨_, ps_set hN hi hx h1 hs hf, fun σ H D g T Ex a w => h2 σ H _ g T Ex [] a (w.bd.imp (fun o g' k v H' s a' => k _ H' (Pin.set hnp) a'.noV.storeAny) fun x g' k H' cls d a' e => k σ H' cls d .refl a' e)⟩
theorem es_asg {tg : Expr} {f : O → M Unit} (h : Ev X W pu e mo) (hg : EvG X W np tg f) (hs : swapsWithSole [tg] e pos.line X.env = pure false := by rfl) (hw : swappedStores [tg] e X.env = pure none := by rfl)
    (h1 : (assignEach [tg] X.env).map (·.2) = [assign tg X.env] := by rfl) : EvS X W np (.Assign [tg] e pos) (asgM mo f) := by
  obtain ⟨t, c1, c2⟩ := h.ex
  obtain ⟨u, d1, d2⟩ := hg.ex
  refine ⟨_, ps_asg c1 d1 hs hw h1, fun σ H D g T Ex a w => c2 σ H _ g T Ex [] a (w.bd.imp (fun o g' k v H' s a' => ?_) fun x g' k H' cls d a' e => k σ H' cls d .refl a' e)⟩
  refine d2 σ H' _ g' T Ex v o a'.noV ?_
  exact k.bd
end
end
end Z

namespace Z
open PySem PySem.Spec L2
section
variable {X : Cx} {W : WX} {pu pv pw : Bool} {H H' : Hp} {Ex : List (Addr × HO)} {σ σ' : L2.St} {g : Gs} {T T' ws ws' : Roots} {e a b o : Expr} {es : List Expr} {m : M O} {pos p apos : Pos} {k j np : Nat} {x : Str}
/-! ### targets of several names, of data -/
structure EvGs (X : Cx) (np : Nat) (ts : List Expr) (f : List PyData → M Unit) : Prop where
  ex : ∃ t, PGs X ts t ∧ ∀ (σ : L2.St) (H : Hp) (Q : L2.St → Hp → Prop) (g : Gs) (T : Roots) (Ex : List (Addr × HO)) (vs : List V) (ds : List PyData) (B : Exn → Gs → Prop), vs.length = ds.length → At X H Ex σ g (vs.zip (ds.map O.d) ++ T) [] →
    Wp (f ds g) (fun _ g' => ∀ σ' H', Pin np σ σ' → At X H' Ex σ' g' T [] → Q σ' H') B → t vs σ H Q
def nilG : List PyData → M Unit
  | [] => M.ret ()
  | _ => M.no
def consG (i : Nat) (f : List PyData → M Unit) : List PyData → M Unit
  | x :: r => M.bd (setM i (.d x)) fun _ => f r
  | _ => M.no
theorem egs_nil : EvGs X np [] nilG := ⟨_, pgs_nil, fun σ H Q g T Ex vs ds B hl a w => by
  cases ds with
  | nil =>
    cases vs with
    | nil => exact ⟨rfl, w σ H .refl a⟩
    | cons v vs => simp at hl
  | cons x r => exact w.elim⟩
theorem egs_cons (i : Nat) {x : Str} {f : List PyData → M Unit} (hnp : np ≤ i) (hN : X.N.Nodup) (hi : X.N[i]? = some x) (hx : Loc X.env.scope x) (hs : EvGs X np es f) (hf : X.fn x = true ∨ X.env.scope.names.lookup x = some .local := by first | exact .inl rfl | exact .inr rfl | assumption)
    (hst : (assignEach (.Name x pos :: es) X.env).map (·.2) = assign (.Name x pos) X.env :: (assignEach es X.env).map (·.2) := by rfl) : EvGs X np (.Name x pos :: es) (consG i f) := by
  obtain ⟨u, g1, g2⟩ := hs.ex
  refine ⟨_, pgs_cons (pg_name hN hi hx hf) g1 hst, fun σ H Q g T Ex vs ds B hl a w => ?_⟩
  cases ds with
  | nil => exact w.elim
  | cons y r =>
    cases vs with
    | nil => simp at hl
    | cons v vs =>
      have w' : Wp (f r (g.set i (some (.d y)))) _ _ := w
      exact ⟨v, vs, rfl, g2 _ H _ _ T Ex vs r B (by simpa using hl) (At.storeAny a) (w'.imp (fun _ g' k σ' H' p a' => k σ' H' ((Pin.set hnp).trans p) a') fun _ _ k => k)⟩
def tupG (f : List PyData → M Unit) : O → M Unit
  | .d (.tuple ds) => f ds
  | _ => M.no
theorem Rel.isTup {K : PySem.W.Frag} {mg : Str → Option Value} {rs : Roots} {v : V} {ds : List PyData} (r : Rel K mg H Ex ((v, .d (.tuple ds)) :: rs) ws) : ∃ a vs, v = .ref a ∧ SqT K H a vs ∧ vs.length = ds.length ∧ Rel K mg H Ex (vs.zip (ds.map O.d) ++ rs) ws := by
  obtain ⟨Hf, as, s, he, ho, nd, hn, hw⟩ := r.ex
  cases ho with
  | cons h t =>
    cases h with
    | d h =>
      cases h with
      | tup h1 h2 =>
        rename_i a vs
        have hl := dpLen h2
        refine ⟨a, vs, rfl, SqT.of (s _ _ h1), hl, ⟨Hf, _, s, he, ?_, nd, hn, hw⟩⟩
        have all : ∀ {vs : List V} {ds : List PyData}, DpAll K Hf vs ds → OwL K mg Hf H vs (ds.map O.d) [] := by
          intro vs
          induction vs with
          | nil => intro ds h; cases h; exact .nil
          | cons v vs ih => intro ds h; cases h with | cons p q => exact .cons (as := []) (bs := []) (.d p) (ih q)
        obtain ⟨z1, z2⟩ := zipMap (l := vs) (m := ds.map O.d) (by simpa using hl)
        rw [List.map_append, List.map_append, z1, z2]
        exact owLApp (all h2) t
theorem eg_tup {kk : Nat} {f : List PyData → M Unit} {n : Nat} (hc : X.calm = true) (h : EvGs X np es f) (hn : (assignEach es X.env).length = n := by rfl) (hst : (assignEach es X.env).findIdx? (·.1) = none := by rfl)
    (hb : ∀ ds g, ds.length ≠ n → f ds g = .bad) : EvG X W np (.Tuple es kk pos) (tupG f) := by
  obtain ⟨u, g1, g2⟩ := h.ex
  refine ⟨_, pg_tup hc g1 hn hst, fun σ H Q g T Ex v o a w => ?_⟩
  unfold tupG at w
  split at w
  · rename_i ds
    obtain ⟨ad, vs, e1, e2, hl, r⟩ := a.top.isTup
    have hdn : ds.length = n := by
      by_cases z : ds.length = n
      · exact z
      · rw [hb ds g z] at w; exact w.elim
    exact ⟨ad, vs, e1, e2, hl.trans hdn, g2 σ H Q g T Ex vs ds _ hl ⟨a.fit, r.perm (List.perm_append_comm_assoc _ _ _)⟩ w⟩
  · exact w.elim
end
end Z

namespace Z
open PySem PySem.Spec L2
/-- a walk over data, ds, while Tk is held -/
structure Wk (K : PySem.W.Frag) (mg : Str → Option Value) (J : It) (Tk : Roots) (ds : List PyData) : Prop where
  go : ∀ (i : Nat) (H : Hp) (Ex : List (Addr × HO)) (rs : Roots), i < ds.length → Rel K mg H Ex (Tk ++ rs) [] → J.go i H
  stop : ∀ (i : Nat) (H : Hp) (Ex : List (Addr × HO)) (rs : Roots), ds.length ≤ i → Rel K mg H Ex (Tk ++ rs) [] → J.stop i H
  yld : ∀ (i : Nat) (H : Hp) (Ex : List (Addr × HO)) (rs : Roots) (x : V) (H' : Hp) (hi : i < ds.length), Rel K mg H Ex (Tk ++ rs) [] → J.yld i H x H' → Same H H' ∧ Rel K mg H' Ex ((x, .d ds[i]) :: (Tk ++ rs)) []
structure EvI (X : Cx) (W : WX) (pu : Bool) (tg iter : Expr) (m : M (List PyData)) : Prop where
  ex : ∃ wi, PI X tg iter wi ∧ ∀ (σ : L2.St) (H : Hp) (R : It → Hp → Prop) (g : Gs) (T : Roots) (Ex : List (Addr × HO)) (ws : Roots), At X H Ex σ g T ws →
    Wp (m g) (fun ds g' => ∀ J H' Tk, Wk X.K X.mg J Tk ds → (pu = true → g' = g ∧ Same H H') → At X H' Ex σ g' (Tk ++ T) (Vs pu ws) → R J H')
      (fun x g' => ∀ H' cls d, At X H' Ex σ g' T [] → ExAt X.mg cls d H' x → W cls d σ H') → wi σ H R
section
variable {X : Cx} {W : WX} {pu pv pw : Bool} {H H' : Hp} {Ex : List (Addr × HO)} {σ σ' : L2.St} {g : Gs} {T T' ws ws' : Roots} {e a b o : Expr} {es : List Expr} {m : M O} {pos p apos : Pos} {k j np : Nat} {x : Str}
theorem At.relT {Tk : Roots} (a : At X H Ex σ g (Tk ++ T) ws) : Rel X.K X.mg H Ex (Tk ++ (roots σ g ++ T)) ws := a.tops
theorem At.ofT {Tk : Roots} (f : Fit σ g) (r : Rel X.K X.mg H Ex (Tk ++ (roots σ g ++ T)) ws) : At X H Ex σ g (Tk ++ T) ws := ⟨f, r.perm (List.perm_append_comm_assoc _ _ _)⟩
theorem At.dropTs {Tk : Roots} (a : At X H Ex σ g (Tk ++ T) ws) : At X H Ex σ g T ws := ⟨a.fit, (a.tops).dropL⟩

/-! ### for -/
def forM (set : O → M Unit) (body : M Fl) : List PyData → M Fl
  | [] => M.ret .next
  | x :: r => M.bd (set (.d x)) fun _ => M.bd body fun fl => match fl with
    | .next => forM set body r
    | .cnt => forM set body r
    | .brk => M.ret .next
    | .ret o => M.ret (.ret o)
theorem es_for {tg iter : Expr} {body : List Stmt} {mi : M (List PyData)} {set : O → M Unit} {mb : M Fl} (c : Cc X W k) (hi : EvI X W pu tg iter mi) (hg : EvG X W np tg set) (hb : EvSs X W np body mb)
    (hs : ∀ x, foldedSetIterable iter X.env x = pure x := by intro _; rfl) : EvS X W np (.For tg iter body [] pos) (M.bd mi (forM set mb)) := by
  obtain ⟨wi, i1, i2⟩ := hi.ex
  obtain ⟨tg', t1, t2⟩ := hg.ex
  obtain ⟨tb, b1, b2⟩ := hb.ex
  refine ⟨_, ps_for c.own c.calm i1 t1 b1 hs, fun σ H D g T Ex a w => ?_⟩
  refine i2 σ H _ g T Ex [] a (w.bd.imp (fun ds g' kk J H' Tk wk s a' => ?_) fun x g' kk H' cls d a' e => kk σ H' cls d .refl a' e)
  refine ⟨fun i n σ1 H1 => n = ds.length - i ∧ i ≤ ds.length ∧ Pin np σ σ1 ∧ ∃ g1, At X H1 Ex σ1 g1 (Tk ++ T) [] ∧ Wp (forM set mb (ds.drop i) g1) (SPost X np σ T Ex D) (XPost X W np σ T Ex),
    ⟨ds.length, rfl, Nat.zero_le _, .refl, g', a'.noV, kk⟩, ?_⟩
  rintro i n σ1 H1 ⟨rfl, hle, pin, g1, a1, w1⟩
  by_cases hlt : i < ds.length
  · refine .inr ⟨wk.go i H1 Ex _ hlt a1.relT, fun σ2 H2 => ∃ m', m' < ds.length - i ∧ (m' = ds.length - (i + 1) ∧ i + 1 ≤ ds.length ∧ Pin np σ σ2 ∧ ∃ g2, At X H2 Ex σ2 g2 (Tk ++ T) [] ∧ Wp (forM set mb (ds.drop (i + 1)) g2) (SPost X np σ T Ex D) (XPost X W np σ T Ex)), fun _ _ h => h, fun x H2 y => ?_⟩
    obtain ⟨s2, r2⟩ := wk.yld i H1 Ex _ x H2 hlt a1.relT y
    rw [List.drop_eq_getElem_cons hlt] at w1
    refine t2 σ1 H2 _ g1 (Tk ++ T) Ex x _ (.ofTop a1.fit (r2.perm (.cons _ (List.perm_append_comm_assoc _ _ _)))) ((Wp.bd w1).imp (fun _ g2 kk σ2 H3 p2 a2 => ?_) fun x g2 kk σ' H' cls d q a2 e => kk σ' H' cls d (pin.trans q) a2.dropTs e)
    refine b2 σ2 H3 _ g2 (Tk ++ T) Ex a2 ((Wp.bd kk).imp (fun fl g3 kk => ?_) fun x g2 kk σ' H' cls d q a2 e => kk σ' H' cls d ((pin.trans p2).trans q) a2.dropTs e)
    cases fl with
    | next => exact fun σ3 H4 p3 a3 => ⟨_, by omega, rfl, hlt, (pin.trans p2).trans p3, g3, a3, kk⟩
    | cnt => exact fun σ3 H4 p3 a3 => ⟨_, by omega, rfl, hlt, (pin.trans p2).trans p3, g3, a3, kk⟩
    | brk => exact fun σ3 H4 p3 a3 => kk σ3 H4 ((pin.trans p2).trans p3) a3.dropTs
    | ret o => exact fun v σ3 H4 p3 a3 => kk v σ3 H4 ((pin.trans p2).trans p3) (At.ofTop a3.fit (a3.top.perm (.cons _ (List.perm_append_comm_assoc _ _ _)) |>.perm (List.perm_middle (l₁ := Tk)).symm |>.dropL))
  · have e : i = ds.length := by omega
    subst e
    rw [List.drop_length] at w1
    exact .inl ⟨wk.stop _ H1 Ex _ (Nat.le_refl _) a1.relT, w1 σ1 H1 pin a1.dropTs⟩

/-! ### while: as many turns as fuel -/
def whM (c : M Bool) (body : M Fl) : Nat → M Fl
  | 0 => M.no
  | n + 1 => M.bd c fun b => if b = true then M.bd body (fun fl => match fl with
    | .next => whM c body n
    | .cnt => whM c body n
    | .brk => M.ret .next
    | .ret o => M.ret (.ret o)) else M.ret .next
theorem es_while {t : Expr} {body : List Stmt} {mc : M Bool} {mb : M Fl} (n : Nat) (c : Cc X W k) (hc : EvT X W pu t mc) (hb : EvSs X W np body mb) : EvS X W np (.While t body [] pos) (whM mc mb n) := by
  obtain ⟨tc, c1, c2⟩ := hc.ex
  obtain ⟨tb, b1, b2⟩ := hb.ex
  refine ⟨_, ps_while c.own c1 b1, fun σ H D g T Ex a w => ?_⟩
  refine ⟨fun m σ1 H1 => Pin np σ σ1 ∧ ∃ g1, At X H1 Ex σ1 g1 T [] ∧ Wp (whM mc mb m g1) (SPost X np σ T Ex D) (XPost X W np σ T Ex), ⟨n, .refl, g, a, w⟩, ?_⟩
  rintro m σ1 H1 ⟨pin, g1, a1, w1⟩
  cases m with
  | zero => exact w1.elim
  | succ m =>
    refine c2 σ1 H1 _ g1 T Ex [] a1 ((Wp.bd w1).imp (fun b g2 kk H2 s2 a2 => ?_) fun x g2 kk H' cls d a2 e => kk σ1 H' cls d pin a2 e)
    cases b with
    | false => exact iteF (kk σ1 H2 pin a2.noV)
    | true =>
      refine iteT ⟨fun σ2 H3 => ∃ m', m' < m + 1 ∧ (Pin np σ σ2 ∧ ∃ g3, At X H3 Ex σ2 g3 T [] ∧ Wp (whM mc mb m' g3) (SPost X np σ T Ex D) (XPost X W np σ T Ex)), fun _ _ h => h, ?_⟩
      refine b2 σ1 H2 _ g2 T Ex a2.noV ((Wp.bd kk).imp (fun fl g3 kk => ?_) fun x g2 kk => kk.pin pin)
      cases fl with
      | next => exact fun σ3 H4 p3 a3 => ⟨m, Nat.lt_succ_self _, pin.trans p3, g3, a3, kk⟩
      | cnt => exact fun σ3 H4 p3 a3 => ⟨m, Nat.lt_succ_self _, pin.trans p3, g3, a3, kk⟩
      | brk => exact fun σ3 H4 p3 a3 => kk σ3 H4 (pin.trans p3) a3
      | ret o => exact fun v σ3 H4 p3 a3 => kk v σ3 H4 (pin.trans p3) a3

/-! ### what is walked -/
def iAny (K : PySem.W.Frag) (te : TE) : TI := fun σ H R => te σ H fun x H1 => (∃ a, x = .ref a ∧ (∃ xs, SqL K H1 a xs) ∧ R (Itl K a) H1) ∨ (∃ a, x = .ref a ∧ (∃ xs, SqT K H1 a xs) ∧ R (Itt K a) H1) ∨ ∃ z, x = .str z ∧ R (Its z) H1
theorem pi_any {tg : Expr} {te : TE} (he : PE X e te) : PI X tg e (iAny X.K te) := by
  refine ⟨fun pins s σ H R I h => ?_⟩
  refine thn (he.run pins s σ H _ I h) fun v s1 ⟨x, H1, I1, r1, q1⟩ => ?_
  rcases q1 with ⟨a, ex, ⟨xs, hq⟩, q⟩ | ⟨a, ex, ⟨xs, hq⟩, q⟩ | ⟨z, ex, q⟩
  · subst ex
    cases r1
    obtain ⟨its, rv, p, hz⟩ := I1.list hq
    refine wpAny_pyIter_list p.isList ?_
    refine ⟨s1.heap.objs.size, [s1.heap.objs.size], _, _, H1, rfl, I1.kept (t' := s1.toks) fun b o e => Heap.get?_push_of_some _ e, turn_list a _, ⟨_, Heap.get?_push_size _ rfl, rfl, rfl⟩, fun b hb => ?_, q⟩
    have e : b = s1.heap.objs.size := by simpa using hb
    subst e
    exact I1.fpOk (Nat.le_refl _) (I1.hok.fresh (Nat.le_refl _))
  · subst ex
    cases r1
    obtain ⟨its, rv, p, hz⟩ := I1.tuple hq
    refine wpAny_pyIter_tuple (show s1.heap.IsTuple a its.toArray from p) ?_
    refine ⟨s1.heap.objs.size, [s1.heap.objs.size], _, _, H1, rfl, I1.kept (t' := s1.toks) fun b o e => Heap.get?_push_of_some _ e, turn_tuple a _, ⟨_, Heap.get?_push_size _ rfl, rfl, rfl⟩, fun b hb => ?_, q⟩
    have e : b = s1.heap.objs.size := by simpa using hb
    subst e
    exact I1.fpOk (Nat.le_refl _) (I1.hok.fresh (Nat.le_refl _))
  · subst ex
    obtain ⟨t, rfl⟩ := r1
    cases ha : z.cps.all (· < 128)
    · exact wpAny_pyIter_wide ha (pi_one (tk := s1.toks) I1 _ (turn_str _ z t "str_iterator" (.inr rfl)) ⟨_, Heap.get?_push_size _ rfl, rfl, rfl⟩ q)
    · exact wpAny_pyIter_ascii ha (pi_one (tk := s1.toks) I1 _ (turn_str _ z t "str_ascii_iterator" (.inl rfl)) ⟨_, Heap.get?_push_size _ rfl, rfl, rfl⟩ q)
def signs (z : Str) : List PyData := z.cps.toList.map fun c => .str ⟨#[c]⟩
/-- the items of a value that is walked -/
def itemsM (o : O) : M (List PyData) := fun g => match o with
  | .d (.list ds) => .ok ds g
  | .d (.tuple ds) => .ok ds g
  | .d (.str z) => .ok (signs z) g
  | .gL ds => .ok ds g
  | .gT ds => .ok ds g
  | .lst os => match allD os with
    | some ds => .ok ds g
    | none => .bad
  | _ => .bad
theorem dpGet {K : PySem.W.Frag} {Hf : Hp} : ∀ {vs : List V} {ds : List PyData} {i : Nat} {v : V} (h : DpAll K Hf vs ds) (hv : vs[i]? = some v) (hi : i < ds.length), Dp K Hf v ds[i]
  | _, _, 0, _, .cons a t, hv, hi => by
    simp only [List.getElem?_cons_zero, Option.some.injEq] at hv
    subst hv
    exact a
  | _, _, i + 1, _, .cons a t, hv, hi => by
    simp only [List.getElem?_cons_succ] at hv
    exact dpGet (i := i) t hv (by simpa using hi)
/-- the seat of data that is held: one address, one look at any heap -/
theorem Rel.headDp {K : PySem.W.Frag} {mg : Str → Option Value} {rs : Roots} {v : V} {x : PyData} (r : Rel K mg H Ex ((v, .d x) :: rs) ws) : ∃ Hf, Same Hf H ∧ Dp K Hf v x ∧ ∀ (u : V) (y : PyData), Dp K Hf u y → Rel K mg H Ex ((u, .d y) :: (v, .d x) :: rs) ws := by
  obtain ⟨Hf, as, s, he, ho, nd, hn, hw⟩ := r.ex
  cases ho with
  | cons h t =>
    cases h with
    | d h => exact ⟨Hf, s, h, fun u y hu => ⟨Hf, _, s, he, .cons (as := []) (.d hu) (.cons (.d h) t), nd, hn, hw⟩⟩
theorem wkLst {K : PySem.W.Frag} {mg : Str → Option Value} {a : Addr} {ds : List PyData} : Wk K mg (Itl K a) [(.ref a, .d (.list ds))] ds where
  go := fun i H Ex rs hi r => by
    obtain ⟨Hf, s, h, _⟩ := r.headDp
    cases h with
    | lst h1 h2 =>
      rename_i vs
      have hv : i < vs.length := by rw [dpLen h2]; exact hi
      exact ⟨vs, vs[i], SqL.of (s _ _ h1), by simp [hv]⟩
  stop := fun i H Ex rs hi r => by
    obtain ⟨Hf, s, h, _⟩ := r.headDp
    cases h with
    | lst h1 h2 => exact ⟨_, SqL.of (s _ _ h1), by rw [dpLen h2]; exact hi⟩
  yld := fun i H Ex rs x H' hi r y => by
    obtain ⟨Hf, s, h, k⟩ := r.headDp
    obtain ⟨e, y⟩ := y
    subst e
    cases h with
    | lst h1 h2 => exact ⟨Same.refl _, k _ _ (dpGet h2 (y _ (SqL.of (s _ _ h1))) hi)⟩
theorem wkTup {K : PySem.W.Frag} {mg : Str → Option Value} {a : Addr} {ds : List PyData} : Wk K mg (Itt K a) [(.ref a, .d (.tuple ds))] ds where
  go := fun i H Ex rs hi r => by
    obtain ⟨Hf, s, h, _⟩ := r.headDp
    cases h with
    | tup h1 h2 =>
      rename_i vs
      have hv : i < vs.length := by rw [dpLen h2]; exact hi
      exact ⟨vs, vs[i], SqT.of (s _ _ h1), by simp [hv]⟩
  stop := fun i H Ex rs hi r => by
    obtain ⟨Hf, s, h, _⟩ := r.headDp
    cases h with
    | tup h1 h2 => exact ⟨_, SqT.of (s _ _ h1), by rw [dpLen h2]; exact hi⟩
  yld := fun i H Ex rs x H' hi r y => by
    obtain ⟨Hf, s, h, k⟩ := r.headDp
    obtain ⟨e, y⟩ := y
    subst e
    cases h with
    | tup h1 h2 => exact ⟨Same.refl _, k _ _ (dpGet h2 (y _ (SqT.of (s _ _ h1))) hi)⟩
theorem Rel.headG {K : PySem.W.Frag} {mg : Str → Option Value} {rs : Roots} {v : V} {o : O} (r : Rel K mg H Ex ((v, o) :: rs) ws) : ∃ Hf as, Same Hf H ∧ Ow K mg Hf H v o as ∧ ∀ (u : V) (y : PyData), Dp K Hf u y → Rel K mg H Ex ((u, .d y) :: (v, o) :: rs) ws := by
  obtain ⟨Hf, as, s, he, ho, nd, hn, hw⟩ := r.ex
  cases ho with
  | cons h t => exact ⟨Hf, _, s, h, fun u y hu => ⟨Hf, _, s, he, .cons (as := []) (.d hu) (.cons h t), nd, hn, hw⟩⟩
theorem wkGL {K : PySem.W.Frag} {mg : Str → Option Value} {a : Addr} {ds : List PyData} : Wk K mg (Itl K a) [(.ref a, .gL ds)] ds where
  go := fun i H Ex rs hi r => by
    obtain ⟨Hf, as, s, h, _⟩ := r.headG
    cases h with
    | gL h1 h2 =>
      rename_i vs
      have hv : i < vs.length := by rw [dpLen h2]; exact hi
      exact ⟨vs, vs[i], s.seq h1, by simp [hv]⟩
  stop := fun i H Ex rs hi r => by
    obtain ⟨Hf, as, s, h, _⟩ := r.headG
    cases h with
    | gL h1 h2 => exact ⟨_, s.seq h1, by rw [dpLen h2]; exact hi⟩
  yld := fun i H Ex rs x H' hi r y => by
    obtain ⟨Hf, as, s, h, k⟩ := r.headG
    obtain ⟨e, y⟩ := y
    subst e
    cases h with
    | gL h1 h2 => exact ⟨Same.refl _, k _ _ (dpGet h2 (y _ (s.seq h1)) hi)⟩
theorem wkGT {K : PySem.W.Frag} {mg : Str → Option Value} {a : Addr} {ds : List PyData} : Wk K mg (Itt K a) [(.ref a, .gT ds)] ds where
  go := fun i H Ex rs hi r => by
    obtain ⟨Hf, as, s, h, _⟩ := r.headG
    cases h with
    | gT h1 h2 =>
      rename_i vs
      have hv : i < vs.length := by rw [dpLen h2]; exact hi
      exact ⟨vs, vs[i], sameT s h1, by simp [hv]⟩
  stop := fun i H Ex rs hi r => by
    obtain ⟨Hf, as, s, h, _⟩ := r.headG
    cases h with
    | gT h1 h2 => exact ⟨_, sameT s h1, by rw [dpLen h2]; exact hi⟩
  yld := fun i H Ex rs x H' hi r y => by
    obtain ⟨Hf, as, s, h, k⟩ := r.headG
    obtain ⟨e, y⟩ := y
    subst e
    cases h with
    | gT h1 h2 => exact ⟨Same.refl _, k _ _ (dpGet h2 (y _ (sameT s h1)) hi)⟩
theorem wkStr {K : PySem.W.Frag} {mg : Str → Option Value} {z : Str} {Tk : Roots} : Wk K mg (Its z) Tk (signs z) where
  go := fun i H Ex rs hi r => by simpa [signs, Its] using hi
  stop := fun i H Ex rs hi r => by simpa [signs, Its] using hi
  yld := fun i H Ex rs x H' hi r y => by
    obtain ⟨e, c, hc, ex⟩ := y
    subst e; subst ex
    refine ⟨Same.refl _, r.data fun Hf => ?_⟩
    have h1 : (signs z)[i]? = some (.str ⟨#[c]⟩) := by
      unfold signs
      rw [List.getElem?_map, Array.getElem?_toList, hc]
      rfl
    have e : (signs z)[i] = .str ⟨#[c]⟩ := Option.some.inj ((List.getElem?_eq_getElem hi).symm.trans h1)
    rw [e]
    exact .str _
theorem ei_seq {tg : Expr} (h : Ev X W pu e m) : EvI X W pu tg e (M.bd m itemsM) := by
  obtain ⟨t, h1, h2⟩ := h.ex
  refine ⟨_, pi_any h1, fun σ H R g T Ex ws a w => h2 σ H _ g T Ex ws a (w.bd.imp (fun o g' kk v H' s a' => ?_) fun _ _ kk => kk)⟩
  unfold itemsM at kk
  split at kk
  · rename_i ds
    obtain ⟨Hf, sm, h, _⟩ := a'.top.headDp
    cases h with
    | lst q1 q2 => exact .inl ⟨_, rfl, ⟨_, SqL.of (sm _ _ q1)⟩, kk _ H' [(_, .d (.list ds))] wkLst s a'⟩
  · rename_i ds
    obtain ⟨Hf, sm, h, _⟩ := a'.top.headDp
    cases h with
    | tup q1 q2 => exact .inr (.inl ⟨_, rfl, ⟨_, SqT.of (sm _ _ q1)⟩, kk _ H' [(_, .d (.tuple ds))] wkTup s a'⟩)
  · rename_i z
    obtain ⟨Hf, sm, h, _⟩ := a'.top.headDp
    cases h with
    | str => exact .inr (.inr ⟨z, rfl, kk _ H' [] wkStr s a'.drop⟩)
  · rename_i ds
    obtain ⟨Hf, as, sm, h, _⟩ := a'.top.headG
    cases h with
    | gL q1 q2 => exact .inl ⟨_, rfl, ⟨_, sm.seq q1⟩, kk _ H' [(_, .gL ds)] wkGL s a'⟩
  · rename_i ds
    obtain ⟨Hf, as, sm, h, _⟩ := a'.top.headG
    cases h with
    | gT q1 q2 => exact .inr (.inl ⟨_, rfl, ⟨_, sameT sm q1⟩, kk _ H' [(_, .gT ds)] wkGT s a'⟩)
  · rename_i os
    cases q : allD os with
    | none => rw [q] at kk; exact kk.elim
    | some ds =>
      rw [q] at kk
      have hz : (O.lst os).fz = some (.list ds) := by simp only [O.fz, allDFz q]
      have r := a'.top.fz hz
      obtain ⟨Hf, sm, h, _⟩ := r.headDp
      cases h with
      | lst q1 q2 => exact .inl ⟨_, rfl, ⟨_, SqL.of (sm _ _ q1)⟩, kk _ H' [(_, .d (.list ds))] wkLst s (.ofTop a'.fit r)⟩
  · exact kk.elim
def intsF (lo : Int) (n : Nat) : List PyData := (List.range n).map fun i => .int (lo + (i : Nat))
theorem wkRng {K : PySem.W.Frag} {mg : Str → Option Value} {lo : Int} {n : Nat} {Tk : Roots} : Wk K mg (Itr lo n) Tk (intsF lo n) where
  go := fun i H Ex rs hi r => by simpa [intsF, Itr] using hi
  stop := fun i H Ex rs hi r => by simpa [intsF, Itr] using hi
  yld := fun i H Ex rs x H' hi r y => by
    obtain ⟨e, ex⟩ := y
    subst e; subst ex
    refine ⟨Same.refl _, r.data fun Hf => ?_⟩
    have e : (intsF lo n)[i] = .int (lo + (i : Nat)) := by simp [intsF]
    rw [e]
    exact .int _
def inRng (i : Int) : Bool := decide (-(4611686018427387904) ≤ i) && decide (i < 4611686018427387904)
def rng1M (os : List O) : M (List PyData) := fun g => match os with
  | [.d (.int i)] => if inRng i = true then .ok (intsF 0 i.toNat) g else .bad
  | _ => .bad
def rng2M (os : List O) : M (List PyData) := fun g => match os with
  | [.d (.int i), .d (.int j)] => if inRng i = true ∧ inRng j = true then .ok (intsF i (j - i).toNat) g else .bad
  | _ => .bad
theorem inRng_ok {i : Int} (h : inRng i = true) : -(2 ^ 62) ≤ i ∧ i < 2 ^ 62 := by
  unfold inRng at h
  have := Bool.and_eq_true_iff.mp h
  exact ⟨by have := of_decide_eq_true this.1; omega, by have := of_decide_eq_true this.2; omega⟩
theorem Rel.isI {K : PySem.W.Frag} {mg : Str → Option Value} {rs : Roots} {v : V} {i : Int} (r : Rel K mg H Ex ((v, .d (.int i)) :: rs) ws) : v = .int i := by
  obtain ⟨Hf, s, h, _⟩ := r.headDp
  cases h; rfl
theorem ei_range1 {tg : Expr} {ms : M (List O)} (h : EvEs X W pu [a] ms) (hg : Gl X "range") (hm : X.mg "range" = none) (hs : starEach [a] X.env = [(false, eval a X.env)] := by rfl) : EvI X W pu tg (.Call (.Name "range" p) [a] [] pos) (M.bd ms rng1M) := by
  obtain ⟨ts, g1, g2⟩ := h.ex
  refine ⟨_, pi_range1 hg hm g1.pa hs, fun σ H R g T Ex ws a w => g2 σ H _ g T Ex ws a (w.bd.imp (fun os g' kk vs H' hl s a' => ?_) fun _ _ kk => kk)⟩
  unfold rng1M at kk
  split at kk
  · rename_i i
    split at kk
    · rename_i hi
      match vs, hl with
      | [v], _ =>
        have r : Rel X.K X.mg H' Ex ((v, .d (.int i)) :: (roots σ g' ++ T)) (Vs pu ws) := a'.top
        obtain rfl := r.isI
        obtain ⟨h1, h2⟩ := inRng_ok hi
        exact ⟨i, rfl, h1, h2, kk _ H' [] wkRng s (At.drop (p := (.int i, .d (.int i))) a')⟩
    · exact kk.elim
  · exact kk.elim
theorem ei_range2 {tg : Expr} {ms : M (List O)} (h : EvEs X W pu [a, b] ms) (hg : Gl X "range") (hm : X.mg "range" = none) (hs : starEach [a, b] X.env = [(false, eval a X.env), (false, eval b X.env)] := by rfl) (hs2 : starEach [b] X.env = [(false, eval b X.env)] := by rfl) : EvI X W pu tg (.Call (.Name "range" p) [a, b] [] pos) (M.bd ms rng2M) := by
  obtain ⟨ts, g1, g2⟩ := h.ex
  refine ⟨_, pi_range2 hg hm g1.pa hs hs2, fun σ H R g T Ex ws a w => g2 σ H _ g T Ex ws a (w.bd.imp (fun os g' kk vs H' hl s a' => ?_) fun _ _ kk => kk)⟩
  unfold rng2M at kk
  split at kk
  · rename_i i j
    split at kk
    · rename_i hi
      match vs, hl with
      | [v, u], _ =>
        have a1 : At X H' Ex σ g' ((v, .d (.int i)) :: (u, .d (.int j)) :: T) (Vs pu ws) := a'
        obtain rfl := a1.top.isI
        obtain rfl := a1.drop.top.isI
        obtain ⟨h1, h2⟩ := inRng_ok hi.1
        obtain ⟨h3, h4⟩ := inRng_ok hi.2
        exact ⟨i, j, rfl, ⟨h1, h2, h3, h4⟩, kk _ H' [] wkRng s a1.drop.drop⟩
    · exact kk.elim
  · exact kk.elim
end
end Z

namespace Z
open PySem PySem.Spec L2
/-! ### comprehensions -/
def wipeG (g : Gs) : List Nat → Gs
  | [] => g
  | v :: vs => (wipeG g vs).set v none
def restG (g1 : Gs) : List Nat → Gs → Gs
  | [], g3 => g3
  | v :: vs, g3 => restG g1 vs (g3.set v (((wipeG g1 vs)[v]?).getD none))
def hidR (σ : L2.St) (g : Gs) : List Nat → Roots
  | [] => []
  | v :: vs => (match (wipe σ vs)[v]?, (wipeG g vs)[v]? with
    | some (some x), some (some o) => [(x, o)]
    | _, _ => []) ++ hidR σ g vs
section
variable {K : PySem.W.Frag} {mg : Str → Option Value} {H : Hp} {Ex : List (Addr × HO)} {T ws : Roots} {σ : L2.St} {g g1 : Gs}
theorem wipeLen (g : Gs) : ∀ vs, (wipeG g vs).length = g.length
  | [] => rfl
  | v :: vs => by unfold wipeG; rw [List.length_set, wipeLen g vs]
theorem wipeFit (f : Fit σ g) : ∀ vs, Fit (wipe σ vs) (wipeG g vs)
  | [] => f
  | v :: vs => by
    have ih := wipeFit f vs
    refine ⟨by unfold wipe wipeG; rw [List.length_set, List.length_set]; exact ih.len, fun i o h => ?_⟩
    unfold wipe
    unfold wipeG at h
    by_cases e : v = i
    · subst e
      rw [List.getElem?_set] at h
      simp at h
    · rw [List.getElem?_set_ne e] at h
      rw [List.getElem?_set_ne e]
      exact ih.at_ i o h
theorem wipeRoots (f : Fit σ g) : ∀ vs, (roots σ g).Perm (roots (wipe σ vs) (wipeG g vs) ++ hidR σ g vs)
  | [] => by simp [wipe, wipeG, hidR]
  | v :: vs => by
    have ih := wipeRoots f vs
    have fv := wipeFit f vs
    show (roots σ g).Perm (roots ((wipe σ vs).set v none) ((wipeG g vs).set v none) ++ _)
    rw [rootsNone]
    unfold hidR
    cases q : (wipeG g vs)[v]? with
    | none =>
      rw [setNone (by intro o; rw [q]; simp)]
      cases (wipe σ vs)[v]? with
      | none => exact ih
      | some y => cases y <;> exact ih
    | some y =>
      cases y with
      | none =>
        rw [setNone (by intro o; rw [q]; simp)]
        cases (wipe σ vs)[v]? with
        | none => exact ih
        | some y => cases y <;> exact ih
      | some o =>
        obtain ⟨x, hx⟩ := fv.at_ v o q
        rw [hx]
        exact ih.trans (((rootsGet hx q).append_right _).trans List.perm_middle.symm)
/-- back from a block: the hidden slots stand again -/
theorem restRel (f : Fit σ g1) : ∀ (vs : List Nat) {g3 : Gs}, Fit (wipe σ vs) g3 → Rel K mg H Ex (roots (wipe σ vs) g3 ++ (hidR σ g1 vs ++ T)) ws → Fit σ (restG g1 vs g3) ∧ Rel K mg H Ex (roots σ (restG g1 vs g3) ++ T) ws
  | [], g3, f3, r => ⟨f3, r⟩
  | v :: vs, g3, f3, r => by
    unfold restG
    have f3' : Fit ((wipe σ vs).set v none) g3 := f3
    have hlen : (wipe σ vs).length = g3.length := by have := f3'.len; rwa [List.length_set] at this
    have fv := wipeFit f vs
    have e3 : g3.set v none = g3 := setNone (by
      intro o q
      obtain ⟨x, hx⟩ := f3'.at_ v o q
      rw [List.getElem?_set] at hx
      simp at hx)
    have r0 : Rel K mg H Ex (roots (wipe σ vs) (g3.set v none) ++ (hidR σ g1 (v :: vs) ++ T)) ws := by
      have : roots ((wipe σ vs).set v none) (g3.set v none) = roots (wipe σ vs) (g3.set v none) := rootsNone
      rw [← this, e3]
      exact r
    unfold hidR at r0
    cases q : (wipeG g1 vs)[v]? with
    | none =>
      refine restRel f vs ⟨?_, ?_⟩ ?_
      · simpa using hlen
      · intro i o h
        simp only [Option.getD_none] at h
        rw [e3] at h
        obtain ⟨x, hx⟩ := f3'.at_ i o h
        by_cases e : v = i
        · subst e; rw [List.getElem?_set] at hx; simp at hx
        · rw [List.getElem?_set_ne e] at hx; exact ⟨x, hx⟩
      · rw [q] at r0
        simp only [Option.getD_none]
        cases z : (wipe σ vs)[v]? with
        | none => rw [z] at r0; exact r0
        | some y => rw [z] at r0; cases y <;> exact r0
    | some y =>
      cases y with
      | none =>
        refine restRel f vs ⟨?_, ?_⟩ ?_
        · simpa using hlen
        · intro i o h
          simp only [Option.getD_some] at h
          rw [e3] at h
          obtain ⟨x, hx⟩ := f3'.at_ i o h
          by_cases e : v = i
          · subst e; rw [List.getElem?_set] at hx; simp at hx
          · rw [List.getElem?_set_ne e] at hx; exact ⟨x, hx⟩
        · rw [q] at r0
          simp only [Option.getD_some]
          cases z : (wipe σ vs)[v]? with
          | none => rw [z] at r0; exact r0
          | some y => rw [z] at r0; cases y <;> exact r0
      | some o =>
        obtain ⟨x, hx⟩ := fv.at_ v o q
        rw [q, hx] at r0
        simp only [Option.getD_some]
        have fw : Fit (wipe σ vs) (g3.set v none) := ⟨by simpa using hlen, fun i o h => by
          rw [e3] at h
          obtain ⟨x, hx⟩ := f3'.at_ i o h
          by_cases e : v = i
          · subst e; rw [List.getElem?_set] at hx; simp at hx
          · rw [List.getElem?_set_ne e] at hx; exact ⟨x, hx⟩⟩
        have r1 : Rel K mg H Ex ((x, o) :: (roots (wipe σ vs) (g3.set v none) ++ (hidR σ g1 vs ++ T))) ws := r0.perm List.perm_middle
        have hv := (List.getElem?_eq_some_iff.mp hx).1
        refine restRel f vs ⟨by rw [List.length_set]; exact hlen, fun i o' h => ?_⟩ (r1.perm ?_)
        · by_cases e : v = i
          · subst e; exact ⟨x, hx⟩
          · rw [List.getElem?_set_ne e] at h
            have h2 : (g3.set v none)[i]? = some (some o') := by rw [List.getElem?_set_ne e]; exact h
            exact fw.at_ i o' h2
        · have f0 : Fit (wipe σ vs) g3 := by rw [← e3]; exact fw
          exact (rootsPut f0 hx).symm.append_right _
end
/-- the turns: data in, what is made so far -/
def lcM (vs : List Nat) (set : O → M Unit) (tst : M Bool) (elt : M O) : List PyData → List O → M (List O)
  | [], acc => M.ret acc
  | x :: r, acc => M.bd (set (.d x)) fun _ => M.bd tst fun b => if b = true then M.bd elt (fun o g => lcM vs set tst elt r (acc ++ [o]) (wipeG g vs)) else fun g => lcM vs set tst elt r acc (wipeG g vs)
def noX {α : Type} (m : M α) : M α := fun g => match m g with
  | .ok a e => .ok a e
  | _ => .bad
def compM (vs : List Nat) (mi : M (List PyData)) (set : O → M Unit) (tst : M Bool) (elt : M O) : M O := M.bd mi fun ds g1 =>
  if lenOk ds.length = true then match lcM vs set tst elt ds [] (wipeG g1 vs) with
    | .ok os g3 => .ok (.lst os) (restG g1 vs g3)
    | _ => .bad
  else .bad
def yesM : M Bool := M.ret true
abbrev WX0 : WX := fun _ _ _ _ => False
structure EvC (X : Cx) (W : WX) (pu : Bool) (cs : List Expr) (m : M Bool) : Prop where
  ex : ∃ t, PTs X cs t ∧ ∀ (σ : L2.St) (H : Hp) (Q : Bool → Hp → Prop) (g : Gs) (T : Roots) (Ex : List (Addr × HO)) (ws : Roots), At X H Ex σ g T ws →
    Wp (m g) (fun b g' => ∀ H', (pu = true → g' = g ∧ Same H H') → At X H' Ex σ g' T (Vs pu ws) → Q b H')
      (fun x g' => ∀ H' cls d, At X H' Ex σ g' T [] → ExAt X.mg cls d H' x → W cls d σ H') → t σ H Q
/-- a target of a comprehension: it leaves the heap, and slots but its own -/
structure EvB (X : Cx) (vs : List Nat) (tg : Expr) (f : O → M Unit) : Prop where
  ex : ∃ t, PG X tg t ∧ ∀ (σ : L2.St) (H : Hp) (Q : L2.St → Hp → Prop) (g : Gs) (T : Roots) (Ex : List (Addr × HO)) (ws : Roots) (v : V) (o : O) (B : Exn → Gs → Prop), At X H Ex σ g ((v, o) :: T) ws →
    Wp (f o g) (fun _ g' => ∀ σ', wipe σ' vs = wipe σ vs → wipeG g' vs = wipeG g vs → At X H Ex σ' g' T ws → Q σ' H) B → t v σ H Q
section
variable {X : Cx} {W : WX} {pu pv pw : Bool} {H H' : Hp} {Ex : List (Addr × HO)} {σ σ' : L2.St} {g : Gs} {T T' ws ws' : Roots} {e a b o : Expr} {es : List Expr} {m : M O} {pos p apos : Pos} {k j np : Nat} {x : Str}
theorem ec_yes : EvC X W true [] yesM := ⟨_, pts_nil, fun σ H Q g T Ex ws a w => w H (fun _ => ⟨rfl, Same.refl _⟩) a⟩
theorem ec_one {mb : M Bool} (h : EvT X W pu e mb) : EvC X W pu [e] mb := by
  obtain ⟨t, h1, h2⟩ := h.ex
  exact ⟨t, pts_one h1, h2⟩
theorem wipeSetSt {σ : L2.St} {i : Nat} {x : Option V} : ∀ {vs : List Nat}, i ∈ vs → wipe (σ.set i x) vs = wipe σ vs
  | v :: vs, h => by
    unfold wipe
    by_cases hm : i ∈ vs
    · rw [wipeSetSt hm]
    · rcases List.mem_cons.mp h with e | e
      · subst e
        have : ∀ vs : List Nat, i ∉ vs → wipe (σ.set i x) vs = (wipe σ vs).set i x := by
          intro vs
          induction vs with
          | nil => intro _; rfl
          | cons v vs ih =>
            intro hv
            unfold wipe
            rw [ih (fun z => hv (List.mem_cons_of_mem _ z)), List.set_comm _ _ (fun z => hv (by rw [z]; exact List.mem_cons_self))]
        rw [this vs hm, List.set_set]
      · exact absurd e hm
theorem wipeSetG {g : Gs} {i : Nat} {x : Option O} : ∀ {vs : List Nat}, i ∈ vs → wipeG (g.set i x) vs = wipeG g vs
  | v :: vs, h => by
    unfold wipeG
    by_cases hm : i ∈ vs
    · rw [wipeSetG hm]
    · rcases List.mem_cons.mp h with e | e
      · subst e
        have : ∀ vs : List Nat, i ∉ vs → wipeG (g.set i x) vs = (wipeG g vs).set i x := by
          intro vs
          induction vs with
          | nil => intro _; rfl
          | cons v vs ih =>
            intro hv
            unfold wipeG
            rw [ih (fun z => hv (List.mem_cons_of_mem _ z)), List.set_comm _ _ (fun z => hv (by rw [z]; exact List.mem_cons_self))]
        rw [this vs hm, List.set_set]
      · exact absurd e hm
theorem eb_name (i : Nat) {vs : List Nat} {x : Str} (hm : i ∈ vs) (hN : X.N.Nodup) (hi : X.N[i]? = some x) (hx : Loc X.env.scope x) (hf : X.fn x = true ∨ X.env.scope.names.lookup x = some .local := by first | exact .inl rfl | exact .inr rfl | assumption) : EvB X vs (.Name x pos) (setM i) :=
  ⟨_, pg_name hN hi hx hf, fun σ H Q g T Ex ws v o B a w => w _ (wipeSetSt hm) (wipeSetG hm) a.storeAny⟩
structure EvBs (X : Cx) (vs : List Nat) (ts : List Expr) (f : List PyData → M Unit) : Prop where
  ex : ∃ t, PGs X ts t ∧ ∀ (σ : L2.St) (H : Hp) (Q : L2.St → Hp → Prop) (g : Gs) (T : Roots) (Ex : List (Addr × HO)) (ws : Roots) (us : List V) (ds : List PyData) (B : Exn → Gs → Prop), us.length = ds.length → At X H Ex σ g (us.zip (ds.map O.d) ++ T) ws →
    Wp (f ds g) (fun _ g' => ∀ σ', wipe σ' vs = wipe σ vs → wipeG g' vs = wipeG g vs → At X H Ex σ' g' T ws → Q σ' H) B → t us σ H Q
theorem ebs_nil {vs : List Nat} : EvBs X vs [] nilG := ⟨_, pgs_nil, fun σ H Q g T Ex ws us ds B hl a w => by
  cases ds with
  | nil =>
    cases us with
    | nil => exact ⟨rfl, w σ rfl rfl a⟩
    | cons v vs => simp at hl
  | cons x r => exact w.elim⟩
theorem ebs_cons (i : Nat) {vs : List Nat} {x : Str} {f : List PyData → M Unit} (hm : i ∈ vs) (hN : X.N.Nodup) (hi : X.N[i]? = some x) (hx : Loc X.env.scope x) (hs : EvBs X vs es f) (hf : X.fn x = true ∨ X.env.scope.names.lookup x = some .local := by first | exact .inl rfl | exact .inr rfl | assumption)
    (hst : (assignEach (.Name x pos :: es) X.env).map (·.2) = assign (.Name x pos) X.env :: (assignEach es X.env).map (·.2) := by rfl) : EvBs X vs (.Name x pos :: es) (consG i f) := by
  obtain ⟨u, g1, g2⟩ := hs.ex
  refine ⟨_, pgs_cons (pg_name hN hi hx hf) g1 hst, fun σ H Q g T Ex ws us ds B hl a w => ?_⟩
  cases ds with
  | nil => exact w.elim
  | cons y r =>
    cases us with
    | nil => simp at hl
    | cons v us =>
      have w' : Wp (f r (g.set i (some (.d y)))) _ _ := w
      exact ⟨v, us, rfl, g2 _ H _ _ T Ex ws us r B (by simpa using hl) (At.storeAny a) (w'.imp (fun _ g' kk σ' e1 e2 a' => kk σ' (e1.trans (wipeSetSt hm)) (e2.trans (wipeSetG hm)) a') fun _ _ kk => kk)⟩
theorem eb_tup {vs : List Nat} {kk : Nat} {f : List PyData → M Unit} {n : Nat} (hc : X.calm = true) (h : EvBs X vs es f) (hb : ∀ ds g, ds.length ≠ n → f ds g = .bad) (hn : (assignEach es X.env).length = n := by rfl) (hst : (assignEach es X.env).findIdx? (·.1) = none := by rfl) : EvB X vs (.Tuple es kk pos) (tupG f) := by
  obtain ⟨u, g1, g2⟩ := h.ex
  refine ⟨_, pg_tup hc g1 hn hst, fun σ H Q g T Ex ws v o B a w => ?_⟩
  unfold tupG at w
  split at w
  · rename_i ds
    obtain ⟨ad, us, e1, e2, hl, r⟩ := a.top.isTup
    have hdn : ds.length = n := by
      by_cases z : ds.length = n
      · exact z
      · rw [hb ds g z] at w; exact w.elim
    exact ⟨ad, us, e1, e2, hl.trans hdn, g2 σ H Q g T Ex ws us ds _ hl ⟨a.fit, r.perm (List.perm_append_comm_assoc _ _ _)⟩ w⟩
  · exact w.elim
theorem At.cx {Y Y2 : Cx} (a : At Y H Ex σ g T ws) (h1 : Y.K = Y2.K := by rfl) (h2 : Y.mg = Y2.mg := by rfl) : At Y2 H Ex σ g T ws := ⟨a.fit, by rw [← h1, ← h2]; exact a.rel⟩
/-- one reading for all blocks -/
theorem peAll {ι : Type} {t : ι → TE} {P : ι → Prop} {Y : ι → Cx} (h : ∀ i, PE (Y i) e (t i)) : ∀ i, PE (Y i) e (fun σ H Q => ∀ i, t i σ H Q) := fun i => ⟨fun pins s σ H Q I q => (h i).run pins s σ H Q I (q i)⟩
abbrev BI := Shared × Hp × Addr × List (Str × Addr) × List Addr
abbrev blkAt (X : Cx) (scope : Scope) (i : BI) : Cx := X.blk i.1 i.2.1 scope (compEnvC scope i.2.2.2.1 i.2.2.1 X.env) i.2.2.2.2
theorem Cc.blk (c : Cc X W k) (scope : Scope) (i : BI) : Cc (blkAt X scope i) WX0 k := ⟨takes0, c.hr, c.calm, c.nd, PySem.PassesOwn.never⟩
theorem wipe2 {σ : L2.St} {vs' : List Nat} : ∀ {vs : List Nat}, (∀ v ∈ vs, v ∈ vs') → wipe (wipe σ vs) vs' = wipe σ vs'
  | [], _ => rfl
  | v :: vs, h => by
    show wipe ((wipe σ vs).set v none) vs' = _
    rw [wipeSetSt (h v List.mem_cons_self), wipe2 fun u m => h u (List.mem_cons_of_mem _ m)]
theorem wipeRel {K : PySem.W.Frag} {mg : Str → Option Value} {R : Roots} {vs : List Nat} (f : Fit σ g) (r : Rel K mg H Ex (roots σ g ++ R) ws) : Rel K mg H Ex (roots (wipe σ vs) (wipeG g vs) ++ R) ws := by
  have r1 := r.perm ((wipeRoots f vs).append_right R)
  rw [List.append_assoc] at r1
  have r2 := r1.perm (List.perm_append_comm_assoc (roots (wipe σ vs) (wipeG g vs)) (hidR σ g vs) R)
  exact r2.dropL
theorem ev_comp {tg iter elt : Expr} {ifs : List Expr} {scope : Scope} {own : List (Str × Nat)} {mi : M (List PyData)} {set : O → M Unit} {tst : M Bool} {me : M O} (c : Cc X W k) (hi : EvI X W pu tg iter mi) (ok : BlkOk X.N X.env.scope scope own)
    (hg : ∀ i : BI, EvB (blkAt X scope i) (own.map (·.2)) tg set) (ht : ∀ i : BI, EvC (blkAt X scope i) WX0 pv ifs tst) (he : ∀ i : BI, Ev (blkAt X scope i) WX0 pw elt me) (hs : ∀ x, foldedSetIterable iter X.env x = pure x := by intro _; rfl) :
    Ev X W false (.ListComp elt [⟨tg, iter, ifs, 0⟩] scope pos) (compM (own.map (·.2)) mi set tst me) ∧ ∃ wi g tt te, PI X tg iter wi ∧ (∀ (s : Shared) (H : Hp) (C : Addr) (cl : List (Str × Addr)) (fp : List Addr), PG (X.blk s H scope (compEnvC scope cl C X.env) fp) tg g) ∧
      (∀ (s : Shared) (H : Hp) (C : Addr) (cl : List (Str × Addr)) (fp : List Addr), PTs (X.blk s H scope (compEnvC scope cl C X.env) fp) ifs tt) ∧ (∀ (s : Shared) (H : Hp) (C : Addr) (cl : List (Str × Addr)) (fp : List Addr), PE (X.blk s H scope (compEnvC scope cl C X.env) fp) elt te) ∧
      ∀ (σ : L2.St) (H : Hp) (Q : VK) (g0 : Gs) (T : Roots) (Ex : List (Addr × HO)) (ws : Roots), At X H Ex σ g0 T ws →
    Wp (compM (own.map (·.2)) mi set tst me g0) (fun o g' => ∀ v H', (false = true → g' = g0 ∧ Same H H') → At X H' Ex σ g' ((v, o) :: T) (Vs false ws) → Q v H')
      (fun x g' => ∀ H' cls d, At X H' Ex σ g' T [] → ExAt X.mg cls d H' x → W cls d σ H') → tLc wi g tt te (own.map (·.2)) σ H Q := by
  obtain ⟨wi, i1, i2⟩ := hi.ex
  let tgU : TG := fun v σ H Q => ∀ i, (hg i).ex.choose v σ H Q
  let ttU : TT := fun σ H Q => ∀ i, (ht i).ex.choose σ H Q
  let teU : TE := fun σ H Q => ∀ i, (he i).ex.choose σ H Q
  have p1 : ∀ (s : Shared) (H : Hp) (C : Addr) (cl : List (Str × Addr)) (fp : List Addr), PG (X.blk s H scope (compEnvC scope cl C X.env) fp) tg tgU := fun s H C cl fp =>
    ⟨fun pins s' σ H' v u Q I r q => (hg (s, H, C, cl, fp)).ex.choose_spec.1.run pins s' σ H' v u Q I r (q _)⟩
  have p2 : ∀ (s : Shared) (H : Hp) (C : Addr) (cl : List (Str × Addr)) (fp : List Addr), PTs (X.blk s H scope (compEnvC scope cl C X.env) fp) ifs ttU := fun s H C cl fp =>
    ⟨fun pins s' σ H' Q I q => (ht (s, H, C, cl, fp)).ex.choose_spec.1.run pins s' σ H' Q I (q _)⟩
  have p3 : ∀ (s : Shared) (H : Hp) (C : Addr) (cl : List (Str × Addr)) (fp : List Addr), PE (X.blk s H scope (compEnvC scope cl C X.env) fp) elt teU := fun s H C cl fp =>
    ⟨fun pins s' σ H' Q I q => (he (s, H, C, cl, fp)).ex.choose_spec.1.run pins s' σ H' Q I (q _)⟩
  have core : ∀ (σ : L2.St) (H : Hp) (Q : VK) (g0 : Gs) (T : Roots) (Ex : List (Addr × HO)) (ws : Roots), At X H Ex σ g0 T ws →
    Wp (compM (own.map (·.2)) mi set tst me g0) (fun o g' => ∀ v H', (false = true → g' = g0 ∧ Same H H') → At X H' Ex σ g' ((v, o) :: T) (Vs false ws) → Q v H')
      (fun x g' => ∀ H' cls d, At X H' Ex σ g' T [] → ExAt X.mg cls d H' x → W cls d σ H') → tLc wi tgU ttU teU (own.map (·.2)) σ H Q := by
    intro σ H Q g T Ex ws a w
    generalize hvs : own.map (·.2) = vs at w ⊢
    refine i2 σ H _ g T Ex ws a (w.bd.imp (fun ds g1 kk J H1 Tk wk s a1 => ?_) fun _ _ kk => kk)
    intro D hD
    split at kk
    · rename_i hlen
      have hsz := lenOk_le hlen
      split at kk
      · rename_i os g3 hq
        have w0 : Wp (lcM vs set tst me (ds.drop 0) [] (wipeG g1 vs)) (fun os' g' => os' = os ∧ g' = g3) (fun _ _ => False) := by
          rw [List.drop_zero, hq]
          exact ⟨rfl, rfl⟩
        refine ⟨fun i n H2 => n = ds.length - i ∧ i ≤ ds.length ∧ ∃ (acc : List O) (va : List V) (g2 : Gs), va.length = acc.length ∧ acc.length ≤ i ∧ Fit (wipe σ vs) g2 ∧ Rel X.K X.mg H2 ((D, .lst va) :: Ex) (roots (wipe σ vs) g2 ++ (va.zip acc ++ (Tk ++ (hidR σ g1 vs ++ T)))) [] ∧
          Wp (lcM vs set tst me (ds.drop i) acc g2) (fun os' g' => os' = os ∧ g' = g3) (fun _ _ => False), ⟨ds.length, rfl, Nat.zero_le _, [], [], _, rfl, Nat.le_refl _, wipeFit a1.fit vs, ?_, w0⟩, ?_⟩
        · refine (Rel.new (ws := Vs pu ws) (.lst []) ?_ hD).noviews
          have r1 := a1.rel.perm ((wipeRoots a1.fit vs).append_right (Tk ++ T))
          rw [List.append_assoc] at r1
          exact r1.perm ((List.perm_append_comm_assoc _ _ _).append_left _)
        · rintro i n H2 ⟨rfl, hle, acc, va, g2, hva, hacc, f2, r2, w2⟩
          have rTk : Rel X.K X.mg H2 ((D, .lst va) :: Ex) (Tk ++ (roots (wipe σ vs) g2 ++ (va.zip acc ++ (hidR σ g1 vs ++ T)))) [] := by
            refine r2.perm ?_
            refine ((List.perm_append_comm_assoc _ _ _).append_left _).trans ?_
            exact List.perm_append_comm_assoc _ _ _
          by_cases hlt : i < ds.length
          · refine .inr ⟨wk.go i H2 _ _ hlt rTk, fun H' => ∃ m', m' < ds.length - i ∧ (m' = ds.length - (i + 1) ∧ i + 1 ≤ ds.length ∧ ∃ (acc : List O) (va : List V) (g2 : Gs), va.length = acc.length ∧ acc.length ≤ i + 1 ∧ Fit (wipe σ vs) g2 ∧ Rel X.K X.mg H' ((D, .lst va) :: Ex) (roots (wipe σ vs) g2 ++ (va.zip acc ++ (Tk ++ (hidR σ g1 vs ++ T)))) [] ∧
              Wp (lcM vs set tst me (ds.drop (i + 1)) acc g2) (fun os' g' => os' = os ∧ g' = g3) (fun _ _ => False)), fun _ h => h, fun x H3 y => ?_⟩
            obtain ⟨s3, r3⟩ := wk.yld i H2 _ _ x H3 hlt rTk y
            rw [List.drop_eq_getElem_cons hlt] at w2
            intro bi
            have a3 : At (blkAt X scope bi) H3 ((D, .lst va) :: Ex) (wipe σ vs) g2 ((x, .d ds[i]) :: (va.zip acc ++ (Tk ++ (hidR σ g1 vs ++ T)))) [] := by
              refine .ofTop f2 (r3.perm (.cons _ ?_))
              refine (List.perm_append_comm_assoc _ _ _).trans ?_
              exact (List.perm_append_comm_assoc _ _ _).append_left _
            refine (hg bi).ex.choose_spec.2 (wipe σ vs) H3 _ g2 _ _ [] x _ (fun _ _ => False) a3 ?_
            have w3 : Wp (M.bd (set (.d ds[i])) _ g2) _ _ := w2
            refine w3.bd.imp (fun _ g4 kk4 σ4 e1 e2 a4 => ⟨?_, ?_⟩) fun _ _ z => z
            · rw [hvs] at e1
              rw [e1, wipe2 fun _ h => h]
            intro bj
            have ew : wipe σ4 vs = wipe σ vs := by
              rw [hvs] at e1
              rw [e1, wipe2 fun _ h => h]
            refine (ht bj).ex.choose_spec.2 σ4 H3 _ g4 _ _ [] a4.cx (kk4.bd.imp (fun b g5 kk5 H5 s5 a5 => ?_) fun _ _ z => z.elim)
            have fin : ∀ {H6 : Hp} {g6 : Gs} {acc' : List O} {va' : List V}, va'.length = acc'.length → acc'.length ≤ i + 1 → Fit σ4 g6 → Rel X.K X.mg H6 ((D, .lst va') :: Ex) (roots σ4 g6 ++ (va'.zip acc' ++ (Tk ++ (hidR σ g1 vs ++ T)))) [] →
                Wp (lcM vs set tst me (ds.drop (i + 1)) acc' (wipeG g6 vs)) (fun os' g' => os' = os ∧ g' = g3) (fun _ _ => False) →
                ∃ m', m' < ds.length - i ∧ (m' = ds.length - (i + 1) ∧ i + 1 ≤ ds.length ∧ ∃ (acc : List O) (va : List V) (g2 : Gs), va.length = acc.length ∧ acc.length ≤ i + 1 ∧ Fit (wipe σ vs) g2 ∧ Rel X.K X.mg H6 ((D, .lst va) :: Ex) (roots (wipe σ vs) g2 ++ (va.zip acc ++ (Tk ++ (hidR σ g1 vs ++ T)))) [] ∧
                  Wp (lcM vs set tst me (ds.drop (i + 1)) acc g2) (fun os' g' => os' = os ∧ g' = g3) (fun _ _ => False)) := by
              intro H6 g6 acc' va' h1 h2 f6 r6 w6
              refine ⟨_, by omega, rfl, hlt, acc', va', wipeG g6 vs, h1, h2, ?_, ?_, w6⟩
              · rw [← ew]; exact wipeFit f6 vs
              · rw [← ew]; exact wipeRel f6 r6
            cases b with
            | false => exact iteF (fin hva (by omega) a5.fit a5.noV.rel kk5)
            | true =>
              refine iteT ?_
              intro bk
              refine (he bk).ex.choose_spec.2 σ4 H5 _ g5 _ _ [] a5.noV.cx ((Wp.bd kk5).imp (fun o g6 kk6 y H6 s6 a6 => ?_) fun _ _ z => z.elim)
              obtain ⟨Hf, as, sm, hex, _⟩ := a6.rel.ex
              refine ⟨va, hex _ List.mem_cons_self, ?_, ?_⟩
              · rw [hva]
                exact Nat.lt_of_le_of_lt hacc (Nat.lt_of_lt_of_le hlt hsz)
              · refine fin (acc' := acc ++ [o]) (va' := va ++ [y]) (by simp [hva]) (by simp; omega) a6.fit ?_ kk6
                have r6 := a6.rel.write (.lst (va ++ [y]))
                refine r6.perm ?_
                rw [List.zip_append hva]
                simp only [List.zip_cons_cons, List.zip_nil_right, List.append_assoc]
                exact (List.perm_middle (a := (y, o))).symm.append_left _
          · have e : i = ds.length := by omega
            subst e
            rw [List.drop_length] at w2
            obtain ⟨rfl, rfl⟩ : acc = os ∧ g2 = g3 := w2
            refine .inl ⟨wk.stop _ H2 _ _ (Nat.le_refl _) rTk, kk _ H2 (fun z => by cases z) ?_⟩
            have r5 : Rel X.K X.mg H2 ((D, .lst va) :: Ex) (va.zip acc ++ (Tk ++ (roots (wipe σ vs) g2 ++ (hidR σ g1 vs ++ T)))) [] := by
              refine r2.perm ?_
              refine (List.perm_append_comm_assoc _ _ _).trans ?_
              exact (List.perm_append_comm_assoc _ _ _).append_left _
            have r6 := r5.shut (.lst (os := acc)) hva
            have r7 : Rel X.K X.mg H2 Ex (Tk ++ (roots (wipe σ vs) g2 ++ (hidR σ g1 vs ++ ((.ref D, .lst acc) :: T)))) [] := by
              refine r6.perm (List.Perm.symm ?_)
              refine ((List.perm_middle.append_left _).append_left _).trans ?_
              refine (List.perm_middle.append_left _).trans ?_
              exact List.perm_middle
            obtain ⟨f8, r8⟩ := restRel a1.fit vs f2 r7.dropL
            exact ⟨f8, r8⟩
      · exact kk.elim
    · exact kk.elim
  exact ⟨⟨_, pe_lc c.calm c.nd i1 ok p1 p2 p3 hs, core⟩, wi, tgU, ttU, teU, i1, p1, p2, p3, core⟩
end
end Z

namespace Z
open PySem PySem.Spec L2
/-! ### a def -/
def optAll : List (Option O) → Option (List O)
  | [] => some []
  | some o :: r => match optAll r with
    | some os => some (o :: os)
    | none => none
  | none :: _ => none
def isD : O → Bool
  | .d _ => true
  | _ => false
def finF (np : Nat) (os : List O) (o : O) (g : Gs) : FRes := match optAll (g.take np) with
  | some ps => .ok o (ps ++ os.drop np)
  | none => .bad
def runF (np na nN : Nat) (m : M Fl) : Fn := fun os => if os.length = na ∧ (os.drop np).all isD = true then
    match m (os.map some ++ List.replicate (nN - na) none) with
    | .ok .next g => finF np os (.d .none) g
    | .ok (.ret o) g => finF np os o g
    | .ok _ _ => .bad
    | .ex x _ => .ex x
    | .bad => .bad
  else .bad
theorem rootsApp : ∀ {s1 s2 : L2.St} {g1 g2 : Gs}, s1.length = g1.length → roots (s1 ++ s2) (g1 ++ g2) = roots s1 g1 ++ roots s2 g2
  | [], _, [], _, _ => by simp [roots]
  | s :: s1, s2, p :: g1, g2, h => by
    have ih := rootsApp (s1 := s1) (s2 := s2) (g1 := g1) (g2 := g2) (by simpa using h)
    cases s with
    | none => simpa only [List.cons_append, roots] using ih
    | some w => cases p <;> simp only [List.cons_append, roots, ih]
  | [], _, _ :: _, _, h => by simp at h
  | _ :: _, _, [], _, h => by simp at h
theorem rootsSome : ∀ {vs : List V} {os : List O}, vs.length = os.length → roots (vs.map some) (os.map some) = vs.zip os
  | [], [], _ => rfl
  | v :: vs, o :: os, h => by
    simp only [List.map_cons, roots, List.zip_cons_cons]
    rw [rootsSome (by simpa using h)]
  | [], _ :: _, h => by simp at h
  | _ :: _, [], h => by simp at h
theorem rootsRep : ∀ (n m : Nat), roots (List.replicate n none) (List.replicate m none) = []
  | 0, _ => by simp [roots]
  | n + 1, 0 => by simp [roots]
  | n + 1, m + 1 => by simp only [List.replicate_succ, roots]; exact rootsRep n m
theorem optAllMap : ∀ {l : List (Option O)} {os : List O}, optAll l = some os → l = os.map some
  | [], os, h => by simp only [optAll, Option.some.injEq] at h; subst h; rfl
  | some o :: r, os, h => by
    simp only [optAll] at h
    cases q : optAll r with
    | none => rw [q] at h; cases h
    | some y => rw [q] at h; cases h; rw [List.map_cons, ← optAllMap q]
  | none :: _, _, h => by simp [optAll] at h
section
variable {K : PySem.W.Frag} {mg : Str → Option Value} {H : Hp} {Ex : List (Addr × HO)} {T ws rs : Roots} {σ : L2.St} {g g1 : Gs}
theorem dupAll : ∀ {vs : List V} {os : List O} {rs : Roots}, os.all isD = true → Rel K mg H Ex (vs.zip os ++ rs) ws → Rel K mg H Ex (vs.zip os ++ (vs.zip os ++ rs)) ws
  | [], _, _, _, r => by simpa using r
  | _ :: _, [], _, _, r => by simpa using r
  | v :: vs, o :: os, rs, h, r => by
    simp only [List.all_cons, Bool.and_eq_true] at h
    cases o with
    | d x =>
      simp only [List.zip_cons_cons, List.cons_append] at r ⊢
      have r1 := r.dup
      have r2 : Rel K mg H Ex (vs.zip os ++ ((v, .d x) :: (v, .d x) :: rs)) ws := by
        refine r1.perm (List.Perm.symm ?_)
        exact List.perm_middle.trans (.cons _ List.perm_middle)
      have r3 := dupAll h.2 r2
      refine r3.perm ?_
      refine ((List.perm_middle.append_left _).trans List.perm_middle).trans (.cons _ ?_)
      exact (List.perm_middle.append_left _)
    | _ => simp [isD] at h
end
section
variable {P : Program} {w : World} {K : PySem.W.Frag} {mg : Str → Option Value} {base : Heap}
theorem fnRule {x qual : Str} {st : Stmt} {f : Addr} {fd : FuncData} {N ps : List Str} {k : Nat} {m : M Fl} (np : Nat) (F : Fun K x qual st f fd) (S : FnScope N ps (defScope st)) (hnp : np ≤ ps.length)
    (hb : ∀ (cdv : Value) (A : Around) (outer : List Env) (s : Shared) (H : Hp) (E : XK), Cc (cxOf (L2.CX P w) P w K mg base N qual (defScope st) f cdv A outer s H E) (fun cls d _ H => E cls d H) k →
      EvSs (cxOf (L2.CX P w) P w K mg base N qual (defScope st) f cdv A outer s H E) (fun cls d _ H => E cls d H) np (defBody st) m) :
    FnOk P w K mg base (L2.CX P w) (k + 1) f fd ps (spF K mg ps.length (runF np ps.length N.length m)) := by
  refine F.okX S (fun vs H Q E h => h.1) (fun cdv A outer s H vs Q E hr h => ?_)
  obtain ⟨hvl, os, Ex, T, hol, r, w⟩ := h
  have c : Cc (cxOf (L2.CX P ‹World›) P ‹World› K mg base N qual (defScope st) f cdv A outer s H E) (fun cls d _ H => E cls d H) k := ⟨takes_of rfl rfl rfl rfl, hr, rfl, S.nd, passes_of rfl⟩
  obtain ⟨t, h1, h2⟩ := (hb cdv A outer s H E c).ex
  refine ⟨t, h1, ?_⟩
  unfold runF at w
  split at w
  · rename_i hcond
    obtain ⟨hol', hall⟩ := hcond
    have hvo : vs.length = os.length := hvl.trans hol.symm
    have hz : vs.zip os = (vs.take np).zip (os.take np) ++ (vs.drop np).zip (os.drop np) := by
      conv => lhs; rw [← List.take_append_drop np vs, ← List.take_append_drop np os]
      exact List.zip_append (by simp [hvo])
    have hroots : roots (L2.start N vs) (os.map some ++ List.replicate (N.length - ps.length) none) = vs.zip os := by
      unfold L2.start
      rw [rootsApp (by simp [hvo]), rootsSome hvo, rootsRep, List.append_nil]
    have a0 : At (cxOf (L2.CX P ‹World›) P ‹World› K mg base N qual (defScope st) f cdv A outer s H E) H Ex (L2.start N vs) (os.map some ++ List.replicate (N.length - ps.length) none) ((vs.drop np).zip (os.drop np) ++ T) [] := by
      refine ⟨⟨by unfold L2.start; simp [hvo, hvl, hol], fun i o hi => ?_⟩, ?_⟩
      · by_cases hlt : i < os.length
        · unfold L2.start
          rw [List.getElem?_append_left (by simpa [hvo] using hlt)]
          refine ⟨vs[i]'(by omega), ?_⟩
          rw [List.getElem?_map, List.getElem?_eq_getElem (by omega)]
          rfl
        · rw [List.getElem?_append_right (by simpa using hlt), List.getElem?_replicate] at hi
          split at hi <;> cases hi
      · rw [hroots]
        rw [hz, List.append_assoc] at r ⊢
        have r1 := r.perm (List.perm_append_comm_assoc _ _ _)
        have r2 := dupAll hall r1
        refine r2.perm ?_
        refine ((List.perm_append_comm_assoc _ _ _).append_left _).trans ?_
        exact List.perm_append_comm_assoc _ _ _
    -- the end: what the parameters hold
    have fin : ∀ {o : O} {g : Gs} {v : V} {σ' : L2.St} {H' : Hp}, FW (finF np os o g) (fun r ps' => ps'.length = ps.length ∧ ∀ v H', Rel K mg H' Ex ((v, r) :: (vs.zip ps' ++ T)) [] → Q v H') (fun x => ∀ H' cls d, Rel K mg H' Ex T [] → ExAt mg cls d H' x → E cls d H') →
        Pin np (L2.start N vs) σ' → Fit σ' g → Rel K mg H' Ex ((v, o) :: (roots σ' g ++ ((vs.drop np).zip (os.drop np) ++ T))) [] → Q v H' := by
      intro o g v σ' H' fw pin fit rr
      unfold finF at fw
      cases q : optAll (g.take np) with
      | none => rw [q] at fw; exact fw.elim
      | some ps1 =>
        rw [q] at fw
        obtain ⟨hl, kq⟩ := fw
        refine kq v H' ?_
        have hg := optAllMap q
        have hps1 : ps1.length = np := by
          have : (ps1 ++ os.drop np).length = ps.length := hl
          rw [List.length_append, List.length_drop, hol] at this
          omega
        have hσ : σ'.take np = (vs.take np).map some := by
          apply List.ext_getElem?
          intro i
          by_cases hi : i < np
          · rw [List.getElem?_take_of_lt hi, pin i hi]
            unfold L2.start
            rw [List.getElem?_append_left (by simp [hvl]; omega), List.getElem?_map, List.getElem?_map, List.getElem?_take_of_lt hi]
          · rw [List.getElem?_eq_none (by simp; omega), List.getElem?_eq_none (by simp; omega)]
        have e1 : roots σ' g = (vs.take np).zip ps1 ++ roots (σ'.drop np) (g.drop np) := by
          conv => lhs; rw [← List.take_append_drop np σ', ← List.take_append_drop np g]
          rw [rootsApp (by simp [fit.len]), hσ, hg, rootsSome (by simp [hps1, hvl]; omega)]
        have e2 : vs.zip (ps1 ++ os.drop np) = (vs.take np).zip ps1 ++ (vs.drop np).zip (os.drop np) := by
          conv => lhs; rw [← List.take_append_drop np vs]
          exact List.zip_append (by simp [hps1, hvl]; omega)
        rw [e1] at rr
        rw [e2]
        have r1 : Rel K mg H' Ex (roots (σ'.drop np) (g.drop np) ++ ((v, o) :: ((vs.take np).zip ps1 ++ ((vs.drop np).zip (os.drop np) ++ T)))) [] := by
          refine rr.perm (List.Perm.symm ?_)
          refine List.perm_middle.trans (.cons _ ?_)
          rw [List.append_assoc]
          exact List.perm_append_comm_assoc _ _ _
        have r2 := r1.dropL
        rw [List.append_assoc]
        exact r2
    refine h2 (L2.start N vs) H _ _ _ Ex a0 ?_
    revert w
    cases q : m (os.map some ++ List.replicate (N.length - ps.length) none) with
    | bad => intro w; exact w.elim
    | ex x g =>
      intro w σ' H' cls d pin a' xa
      exact w H' cls d a'.rel.dropL.dropL xa
    | ok fl g =>
      intro w
      cases fl with
      | next =>
        intro σ' H' pin a'
        exact fin w pin a'.fit (a'.rel.data fun _ => .non)
      | ret o =>
        intro v σ' H' pin a'
        exact fin w pin a'.fit a'.top
      | brk => exact w.elim
      | cnt => exact w.elim
  · exact w.elim
end
section
variable {X : Cx} {W : WX} {pu pv pw : Bool} {H H' : Hp} {Ex : List (Addr × HO)} {σ σ' : L2.St} {g : Gs} {T T' ws ws' : Roots} {e a b o : Expr} {es : List Expr} {m : M O} {pos p apos : Pos} {k j np : Nat} {x : Str}
/-- a name made of a comprehension on one line -/
theorem es_setLc (i : Nat) {y : Str} {py spos : Pos} {tg iter elt : Expr} {ifs : List Expr} {scope : Scope} {own : List (Str × Nat)} {mi : M (List PyData)} {set : O → M Unit} {tst : M Bool} {me : M O} (c : Cc X W k) (hnp : np ≤ i) (hy : X.N[i]? = some y) (hyl : X.env.scope.names.lookup y = some .local)
    (hsw : swapsWith (.ListComp elt [⟨tg, iter, ifs, 0⟩] scope pos) (some (.Name y py)) spos.line X.env = pure true) (hi : EvI X W pu tg iter mi) (ok : BlkOk X.N X.env.scope scope own)
    (hg : ∀ i : BI, EvB (blkAt X scope i) (own.map (·.2)) tg set) (ht : ∀ i : BI, EvC (blkAt X scope i) WX0 pv ifs tst) (he : ∀ i : BI, Ev (blkAt X scope i) WX0 pw elt me) (hs : ∀ x, foldedSetIterable iter X.env x = pure x := by intro _; rfl) :
    EvS X W np (.Assign [.Name y py] (.ListComp elt [⟨tg, iter, ifs, 0⟩] scope pos) spos) (asgM (compM (own.map (·.2)) mi set tst me) (setM i)) := by
  obtain ⟨_, wi, tgU, ttU, teU, i1, p1, p2, p3, core⟩ := ev_comp (pos := pos) c hi ok hg ht he hs
  refine ⟨_, ps_setLc c.calm c.nd hy hyl hsw i1 ok p1 p2 p3 hs, fun σ H D g T Ex a w => ?_⟩
  refine core σ H _ g T Ex [] a (w.bd.imp (fun o g' kk v H' s a' => ?_) fun x g' kk H' cls d a' e => kk σ H' cls d .refl a' e)
  exact kk _ H' (Pin.set hnp) a'.noV.storeAny
end
end Z

namespace Z
open PySem PySem.Spec L2
section
variable {K : PySem.W.Frag} {mg : Str → Option Value} {H H' : Hp} {Ex : List (Addr × HO)} {T ws rs : Roots} {X : Cx}
theorem owAllD {Hf : Hp} : ∀ {vs : List V} {os : List O} {as : List Addr} {ds : List PyData}, OwL K mg Hf H vs os as → allD os = some ds → DpAll K Hf vs ds
  | _, _, _, ds, .nil, h => by simp only [allD, Option.some.injEq] at h; subst h; exact .nil
  | _, _, _, ds, .cons (o := o) (os := os) h t, e => by
    cases h with
    | d h =>
      simp only [allD] at e
      cases q : allD os with
      | none => rw [q] at e; cases e
      | some y => rw [q] at e; cases e; exact .cons h (owAllD t q)
    | _ => simp [allD] at e
theorem owOfD {Hf : Hp} : ∀ {vs : List V} {ds : List PyData}, DpAll K Hf vs ds → OwL K mg Hf H vs (ds.map O.d) []
  | _, _, .nil => .nil
  | _, _, .cons p q => .cons (as := []) (bs := []) (.d p) (owOfD q)
/-- the ground under a state: what is frozen, what is seen -/
theorem Rel.fr (r : Rel K mg H Ex rs ws) : ∃ Hf, Same Hf H ∧ (∀ p ∈ ws, ∃ bs, Ow K mg Hf H p.1 p.2 bs) ∧ ∀ us ys, DpAll K Hf us ys → Rel K mg H Ex (us.zip (ys.map O.d) ++ rs) ws := by
  obtain ⟨Hf, as, s, he, ho, nd, hn, hw⟩ := r.ex
  refine ⟨Hf, s, hw, fun us ys h => ⟨Hf, as, s, he, ?_, nd, hn, hw⟩⟩
  obtain ⟨z1, z2⟩ := zipMap (l := us) (m := ys.map O.d) (by simpa using dpLen h)
  rw [List.map_append, List.map_append, z1, z2]
  exact owLApp (owOfD h) ho
def asL : O → Option (List PyData)
  | .d (.list ds) => some ds
  | .lst os => allD os
  | _ => none
def asT : O → Option (List PyData)
  | .d (.tuple ds) => some ds
  | _ => none
theorem owL {Hf : Hp} {v : V} {o : O} {as : List Addr} {ds : List PyData} (s : Same Hf H) (h : Ow K mg Hf H v o as) (e : asL o = some ds) : ∃ a vs, v = .ref a ∧ SqL K H a vs ∧ DpAll K Hf vs ds := by
  cases h with
  | d h =>
    cases h with
    | lst h1 h2 =>
      simp only [asL, Option.some.injEq] at e
      subst e
      exact ⟨_, _, rfl, SqL.of (s _ _ h1), h2⟩
    | _ => simp [asL] at e
  | lst h t => exact ⟨_, _, rfl, SqL.of h, owAllD t (by simpa only [asL] using e)⟩
  | _ => simp [asL] at e
theorem owT {Hf : Hp} {v : V} {o : O} {as : List Addr} {ds : List PyData} (s : Same Hf H) (h : Ow K mg Hf H v o as) (e : asT o = some ds) : ∃ a vs, v = .ref a ∧ SqT K H a vs ∧ DpAll K Hf vs ds := by
  cases h with
  | d h =>
    cases h with
    | tup h1 h2 =>
      simp only [asT, Option.some.injEq] at e
      subst e
      exact ⟨_, _, rfl, SqT.of (s _ _ h1), h2⟩
    | _ => simp [asT] at e
  | _ => simp [asT] at e
theorem owTD {Hf : Hp} {v : V} {o : O} {as : List Addr} {ds : List PyData} (h : Ow K mg Hf H v o as) (e : asT o = some ds) : Dp K Hf v (.tuple ds) := by
  cases h with
  | d h =>
    cases h with
    | tup h1 h2 =>
      simp only [asT, Option.some.injEq] at e
      subst e
      exact .tup h1 h2
    | _ => simp [asT] at e
  | _ => simp [asT] at e
theorem owDp {Hf : Hp} {v : V} {o : O} {as : List Addr} {x : PyData} (s : Same Hf H) (h : Ow K mg Hf H v o as) (e : o.fz = some x) : Dp K H v x := dpMono (frzIn s as) (owFz s h e)
theorem owI {Hf : Hp} {v : V} {i : Int} {as : List Addr} (h : Ow K mg Hf H v (.d (.int i)) as) : v = .int i := by cases h with | d h => cases h; rfl
theorem owS {Hf : Hp} {v : V} {i : Str} {as : List Addr} (h : Ow K mg Hf H v (.d (.str i)) as) : v = .str i := by cases h with | d h => cases h; rfl
theorem owB {Hf : Hp} {v : V} {i : Bool} {as : List Addr} (h : Ow K mg Hf H v (.d (.bool i)) as) : v = .bl i := by cases h with | d h => cases h; rfl
theorem owN {Hf : Hp} {v : V} {as : List Addr} (h : Ow K mg Hf H v (.d .none) as) : v = .non := by cases h with | d h => cases h; rfl
theorem dpLst {Hf : Hp} {a : Addr} {vs : List V} {ds : List PyData} (h : Hf a = some (.lst vs)) (t : DpAll K Hf vs ds) : Dp K Hf (.ref a) (.list ds) := .lst h t
/-- a new list of data, a new tuple of data -/
theorem Rel.mkLst {us : List V} {ys : List PyData} {p : Addr} (r : Rel K mg H Ex (us.zip (ys.map O.d) ++ rs) ws) (hl : us.length = ys.length) (hp : H p = none) : Rel K mg (upd H p (.lst us)) Ex ((.ref p, .lst (ys.map O.d)) :: rs) ws := r.newLst (by simpa using hl) hp
theorem mkTupD (ys : List PyData) : mkTup (ys.map O.d) = .d (.tuple ys) := by unfold mkTup; rw [allD_map]
theorem Rel.mkTupl {us : List V} {ys : List PyData} {p : Addr} (r : Rel K mg H Ex (us.zip (ys.map O.d) ++ rs) ws) (hl : us.length = ys.length) (hp : H p = none) : Rel K mg (upd H p (.tup us)) Ex ((.ref p, .d (.tuple ys)) :: rs) ws := by
  have := r.newTup (os := ys.map O.d) (by simpa using hl) hp
  rwa [mkTupD] at this
theorem dpApp {Hf : Hp} : ∀ {us vs : List V} {xs ys : List PyData}, DpAll K Hf us xs → DpAll K Hf vs ys → DpAll K Hf (us ++ vs) (xs ++ ys)
  | _, _, _, _, .nil, q => q
  | _, _, _, _, .cons a t, q => .cons a (dpApp t q)
theorem dpTake {Hf : Hp} : ∀ {us : List V} {xs : List PyData} (n : Nat), DpAll K Hf us xs → DpAll K Hf (us.take n) (xs.take n)
  | _, _, 0, _ => by simp only [List.take_zero]; exact .nil
  | _, _, n + 1, .nil => by simp only [List.take_nil]; exact .nil
  | _, _, n + 1, .cons a t => by simp only [List.take_succ_cons]; exact .cons a (dpTake n t)
theorem dpDrop {Hf : Hp} : ∀ {us : List V} {xs : List PyData} (n : Nat), DpAll K Hf us xs → DpAll K Hf (us.drop n) (xs.drop n)
  | _, _, 0, q => by simpa only [List.drop_zero] using q
  | _, _, n + 1, .nil => by simp only [List.drop_nil]; exact .nil
  | _, _, n + 1, .cons a t => by simp only [List.drop_succ_cons]; exact dpDrop n t
theorem dpGet? {Hf : Hp} : ∀ {vs : List V} {ds : List PyData} {i : Nat} {x : PyData}, DpAll K Hf vs ds → ds[i]? = some x → ∃ v, vs[i]? = some v ∧ Dp K Hf v x
  | _, _, _, _, .nil, h => by simp at h
  | _, _, 0, _, .cons a t, h => by simp only [List.getElem?_cons_zero, Option.some.injEq] at h; subst h; exact ⟨_, rfl, a⟩
  | _, _, i + 1, _, .cons a t, h => by simp only [List.getElem?_cons_succ] at h ⊢; exact dpGet? t h

/-! ### + -/
def addF : List O → Option O
  | [.d (.int i), .d (.int j)] => some (.d (.int (i + j)))
  | [.d (.str i), .d (.str j)] => if lenOk (i.length + j.length) = true then some (.d (.str (i ++ j))) else none
  | [a, b] => match asL a, asL b with
    | some xs, some ys => if lenOk (xs.length + ys.length) = true then some (.lst ((xs ++ ys).map O.d)) else none
    | _, _ => match asT a, asT b with
      | some xs, some ys => if lenOk (xs.length + ys.length) = true then some (.d (.tuple (xs ++ ys))) else none
      | _, _ => none
  | _ => none
def rCatS (K : PySem.W.Frag) : R2 := fun x y H Q => ∃ l b xs zs, x = .ref l ∧ y = .ref b ∧ SqL K H l xs ∧ SqL K H b zs ∧ xs.length + zs.length ≤ sizeLine ∧ ∀ p, H p = none → Q (.ref p) (upd H p (.lst (xs ++ zs)))
open PyProof.Rows in
theorem op_catS : OpR X (binaryOp .Add) (rCatS X.K) := by
  intro pins s σ H x y v u Q I rx ry h
  obtain ⟨l, b, xs, zs, rfl, rfl, hH, hB, hz, q⟩ := h
  cases rx
  cases ry
  obtain ⟨its, r, ⟨⟨c1, d1, dt1, sl1⟩, n, e, hc, hd, hdt⟩, z⟩ := I.list hH
  obtain ⟨its2, r2, ⟨⟨c2, d2, dt2, sl2⟩, n2, e2, hc2, hd2, hdt2⟩, z2⟩ := I.list hB
  simp only at hc hdt hc2 hdt2
  subst hc hdt hc2 hdt2
  have hl := r.length
  have hl2 := r2.length
  refine concat_meets ⟨_, e, rfl⟩ ⟨_, e2, rfl⟩ noFill_list_add seq_list_add PySem.F.slot_list_add PySem.F.entry_list_add (PySem.F.args_list_add_2 _ _) (list_addW l b its.toArray its2.toArray n n2 d1 d2 sl1 sl2 (by rw [List.size_toArray, List.size_toArray]; omega)) ⟨e, e2, ?_⟩
  have ea : its.toArray ++ its2.toArray = (its ++ its2).toArray := by simp
  rw [ea]
  exact ⟨.ref _, _, I.lnew (t' := s.toks) (r.append r2) (by rw [List.length_append]; omega), rfl, q _ I.fresh⟩
def rAdd4 (K : PySem.W.Frag) : R2 := fun x y H Q => rI0 (fun i j => .int (i + j)) x y H Q ∨ (fun x y H Q => ∃ i j, x = V.str i ∧ y = V.str j ∧ i.length + j.length ≤ sizeLine ∧ Q (V.str (i ++ j)) H) x y H Q ∨ rCatS K x y H Q ∨ rCatA K x y H Q
theorem op_add4 : OpR X (binaryOp .Add) (rAdd4 X.K) := OpR.or op_add (OpR.or op_add_str (OpR.or op_catS op_catA))
theorem two {xs : List V} (h : xs.length = 2) : ∃ x y, xs = [x, y] := match xs, h with | [x, y], _ => ⟨x, y, rfl⟩
theorem one {xs : List V} (h : xs.length = 1) : ∃ x, xs = [x] := match xs, h with | [x], _ => ⟨x, rfl⟩
theorem zipHead {v : V} {o : O} {vs : List V} {os : List O} : (v, o) ∈ ((v :: vs).zip (o :: os)) ++ ws := by simp
theorem zipSnd {v u : V} {o o' : O} {vs : List V} {os : List O} : (u, o') ∈ ((v :: u :: vs).zip (o :: o' :: os)) ++ ws := by simp
theorem pr_add : PR X (r2L (rAdd4 X.K)) addF := by
  intro xs os H Ex rs ws Q o hl r hf k
  unfold addF at hf
  split at hf
  · rename_i i j
    cases hf
    obtain ⟨x, y, rfl⟩ := two hl
    obtain ⟨Hf, s, hw, cl⟩ := r.fr
    obtain ⟨_, h1⟩ := hw _ zipHead
    obtain ⟨_, h2⟩ := hw _ zipSnd
    obtain rfl := owI h1
    obtain rfl := owI h2
    exact .inl ⟨i, j, rfl, rfl, k _ _ (Same.refl _) (r.data fun _ => .int _)⟩
  · rename_i i j
    split at hf
    · rename_i hlen
      cases hf
      obtain ⟨x, y, rfl⟩ := two hl
      obtain ⟨Hf, s, hw, cl⟩ := r.fr
      obtain ⟨_, h1⟩ := hw _ zipHead
      obtain ⟨_, h2⟩ := hw _ zipSnd
      obtain rfl := owS h1
      obtain rfl := owS h2
      exact .inr (.inl ⟨i, j, rfl, rfl, lenOk_le hlen, k _ _ (Same.refl _) (r.data fun _ => .str _)⟩)
    · cases hf
  · rename_i a b _ _
    obtain ⟨x, y, rfl⟩ := two hl
    obtain ⟨Hf, s, hw, cl⟩ := r.fr
    obtain ⟨_, h1⟩ := hw _ zipHead
    obtain ⟨_, h2⟩ := hw _ zipSnd
    split at hf
    · rename_i xs ys e1 e2
      split at hf
      · rename_i hlen
        cases hf
        obtain ⟨l1, us, rfl, q1, p1⟩ := owL s h1 e1
        obtain ⟨l2, vs, rfl, q2, p2⟩ := owL s h2 e2
        have hz := lenOk_le hlen
        rw [← dpLen p1, ← dpLen p2] at hz
        refine .inr (.inr (.inl ⟨l1, l2, us, vs, rfl, rfl, q1, q2, hz, fun p hp => k _ _ (sameNew hp _) ?_⟩))
        exact (cl _ _ (dpApp p1 p2)).mkLst (dpLen (dpApp p1 p2)) hp
      · cases hf
    · split at hf
      · rename_i xs ys e1 e2
        split at hf
        · rename_i hlen
          cases hf
          obtain ⟨l1, us, rfl, q1, p1⟩ := owT s h1 e1
          obtain ⟨l2, vs, rfl, q2, p2⟩ := owT s h2 e2
          have hz := lenOk_le hlen
          have hn1 := dpLen p1
          have hn2 := dpLen p2
          rw [← hn1, ← hn2] at hz
          refine .inr (.inr (.inr ⟨l1, l2, us, vs, rfl, rfl, q1, q2, hz, fun z => ?_, fun z1 z2 => ?_, fun _ _ p hp => k _ _ (sameNew hp _) ?_⟩))
          · subst z
            have e : xs = [] := List.length_eq_zero_iff.mp hn1.symm
            subst e
            refine k _ _ (Same.refl _) ?_
            have := cl [.ref l2] [.tuple ys] (.cons (owTD h2 e2) .nil)
            exact this
          · subst z2
            have e : ys = [] := List.length_eq_zero_iff.mp hn2.symm
            subst e
            simp only [List.append_nil] at k
            refine k _ _ (Same.refl _) ?_
            have := cl [.ref l1] [.tuple xs] (.cons (owTD h1 e1) .nil)
            exact this
          · exact (cl _ _ (dpApp p1 p2)).mkTupl (dpLen (dpApp p1 p2)) hp
        · cases hf
      · cases hf
  · cases hf
end
end Z

namespace Z
open PySem PySem.Spec L2
section
variable {K : PySem.W.Frag} {mg : Str → Option Value} {H H' : Hp} {Ex : List (Addr × HO)} {T ws rs : Roots} {X : Cx}
/-! ### ints -/
def i2F (c : Int → Int → Bool) (f : Int → Int → PyData) : List O → Option O
  | [.d (.int i), .d (.int j)] => if c i j = true then some (.d (f i j)) else none
  | _ => none
theorem pr_i2 {C : Int → Int → Prop} {gv : Int → Int → V} {c : Int → Int → Bool} {f : Int → Int → PyData} (hc : ∀ i j, c i j = true → C i j) (hd : ∀ i j Hf, Dp X.K Hf (gv i j) (f i j)) : PR X (r2L (rI C gv)) (i2F c f) := by
  intro xs os H Ex rs ws Q o hl r hf k
  unfold i2F at hf
  split at hf
  · rename_i i j
    split at hf
    · rename_i hcc
      cases hf
      obtain ⟨x, y, rfl⟩ := two hl
      obtain ⟨Hf, s, hw, cl⟩ := r.fr
      obtain ⟨_, h1⟩ := hw _ zipHead
      obtain ⟨_, h2⟩ := hw _ zipSnd
      obtain rfl := owI h1
      obtain rfl := owI h2
      exact ⟨i, j, rfl, rfl, hc i j hcc, k _ _ (Same.refl _) (r.data (hd i j))⟩
    · cases hf
  · cases hf
theorem pr_i20 {gv : Int → Int → V} {f : Int → Int → PyData} (hd : ∀ i j Hf, Dp X.K Hf (gv i j) (f i j)) : PR X (r2L (rI0 gv)) (i2F (fun _ _ => true) f) := by
  intro xs os H Ex rs ws Q o hl r hf k
  unfold i2F at hf
  split at hf
  · rename_i i j
    simp only [if_true] at hf
    cases hf
    obtain ⟨x, y, rfl⟩ := two hl
    obtain ⟨Hf, s, hw, cl⟩ := r.fr
    obtain ⟨_, h1⟩ := hw _ zipHead
    obtain ⟨_, h2⟩ := hw _ zipSnd
    obtain rfl := owI h1
    obtain rfl := owI h2
    exact ⟨i, j, rfl, rfl, k _ _ (Same.refl _) (r.data (hd i j))⟩
  · cases hf
def tt2 : Int → Int → Bool := fun _ _ => true
def subF : List O → Option O := i2F (fun _ _ => true) fun i j => .int (i - j)
def mulC (i j : Int) : Bool := (decide (-18446744073709551616 < i) && decide (i < 18446744073709551616)) || (decide (-18446744073709551616 < j) && decide (j < 18446744073709551616))
def mulF : List O → Option O := i2F mulC fun i j => .int (i * j)
def divF : List O → Option O := i2F (fun _ j => decide (0 < j) && decide (j < 1073741824)) fun i j => .int (i / j)
def modF : List O → Option O := i2F (fun _ j => decide (0 < j)) fun i j => .int (i % j)
def powC (i j : Int) : Bool := decide (0 ≤ j) && decide (j ≤ 1000000) && decide (i.natAbs < 18446744073709551616)
def powF : List O → Option O := i2F powC fun i j => .int (i ^ j.toNat)
def shlF : List O → Option O := i2F powC fun i j => .int (i * 2 ^ j.toNat)
def shrF : List O → Option O := i2F (fun _ j => decide (0 ≤ j)) fun i j => .int (i / 2 ^ j.toNat)
def andF : List O → Option O := i2F (fun _ _ => true) fun i j => .int (Builtin.bitAnd i j)
def orF : List O → Option O := i2F (fun _ _ => true) fun i j => .int (Builtin.bitOr i j)
def xorF : List O → Option O := i2F (fun _ _ => true) fun i j => .int (Builtin.bitXor i j)
def ltF : List O → Option O := i2F (fun _ _ => true) fun i j => .bool (decide (i < j))
def leF : List O → Option O := i2F (fun _ _ => true) fun i j => .bool (decide (i ≤ j))
def gtF : List O → Option O := i2F (fun _ _ => true) fun i j => .bool (decide (j < i))
def geF : List O → Option O := i2F (fun _ _ => true) fun i j => .bool (decide (j ≤ i))
theorem pr_sub : PR X (r2L (rI0 fun i j => .int (i - j))) subF := pr_i20 fun _ _ _ => .int _
theorem pr_and : PR X (r2L (rI0 fun i j => .int (Builtin.bitAnd i j))) andF := pr_i20 fun _ _ _ => .int _
theorem pr_or : PR X (r2L (rI0 fun i j => .int (Builtin.bitOr i j))) orF := pr_i20 fun _ _ _ => .int _
theorem pr_xor : PR X (r2L (rI0 fun i j => .int (Builtin.bitXor i j))) xorF := pr_i20 fun _ _ _ => .int _
theorem pr_lt : PR X (r2L (rI0 fun i j => .bl (decide (i < j)))) ltF := pr_i20 fun _ _ _ => .bl _
theorem pr_le : PR X (r2L (rI0 fun i j => .bl (decide (i ≤ j)))) leF := pr_i20 fun _ _ _ => .bl _
theorem pr_gt : PR X (r2L (rI0 fun i j => .bl (decide (j < i)))) gtF := pr_i20 fun _ _ _ => .bl _
theorem pr_ge : PR X (r2L (rI0 fun i j => .bl (decide (j ≤ i)))) geF := pr_i20 fun _ _ _ => .bl _
theorem pr_mul : PR X (r2L (rI CMul fun i j => .int (i * j))) mulF := pr_i2 (fun i j h => by
  unfold mulC at h
  simp only [Bool.or_eq_true, Bool.and_eq_true, decide_eq_true_eq] at h
  unfold CMul
  rcases h with h | h
  · exact .inl ⟨by omega, by omega⟩
  · exact .inr ⟨by omega, by omega⟩) fun _ _ _ => .int _
theorem pr_div : PR X (r2L (rI CDiv fun i j => .int (i / j))) divF := pr_i2 (fun i j h => by
  simp only [Bool.and_eq_true, decide_eq_true_eq] at h
  exact h) fun _ _ _ => .int _
theorem pr_mod : PR X (r2L (rI (fun _ j => 0 < j) fun i j => .int (i % j))) modF := pr_i2 (fun i j h => of_decide_eq_true h) fun _ _ _ => .int _
theorem powC_ok {i j : Int} (h : powC i j = true) : CPow i j := by
  unfold powC at h
  simp only [Bool.and_eq_true, decide_eq_true_eq] at h
  exact ⟨h.1.1, h.1.2, by have := h.2; omega⟩
theorem pr_pow : PR X (r2L (rI CPow fun i j => .int (i ^ j.toNat))) powF := pr_i2 (fun i j h => powC_ok h) fun _ _ _ => .int _
theorem pr_shl : PR X (r2L (rI CPow fun i j => .int (i * 2 ^ j.toNat))) shlF := pr_i2 (fun i j h => powC_ok h) fun _ _ _ => .int _
theorem pr_shr : PR X (r2L (rI (fun _ j => 0 ≤ j) fun i j => .int (i / 2 ^ j.toNat))) shrF := pr_i2 (fun i j h => of_decide_eq_true h) fun _ _ _ => .int _
def negF : List O → Option O
  | [.d (.int i)] => some (.d (.int (-i)))
  | _ => none
theorem pr_neg : PR X (r1L (rU fun i => .int (-i))) negF := by
  intro xs os H Ex rs ws Q o hl r hf k
  unfold negF at hf
  split at hf
  · rename_i i
    cases hf
    obtain ⟨x, rfl⟩ := one hl
    obtain ⟨Hf, s, hw, cl⟩ := r.fr
    obtain ⟨_, h1⟩ := hw _ zipHead
    obtain rfl := owI h1
    exact ⟨i, rfl, k _ _ (Same.refl _) (r.data fun _ => .int _)⟩
  · cases hf
/-! ### == and != -/
def eqB (a b : O) : Option Bool := match a.fz, b.fz with
  | some (.str x), some (.str y) => some (x == y)
  | some d, some e => if SeqAt.shaped d = true ∧ SeqAt.shaped e = true then some (PyData.eqv d e) else none
  | _, _ => none
def eqF : List O → Option O
  | [a, b] => match eqB a b with | some k => some (.d (.bool k)) | none => none
  | _ => none
def neF : List O → Option O
  | [a, b] => match eqB a b with | some k => some (.d (.bool (!k))) | none => none
  | _ => none
def rEq2 (K : PySem.W.Frag) : R2 := fun x y H Q => rEq x y H Q ∨ rEqD K x y H Q
def rNe2 (K : PySem.W.Frag) : R2 := fun x y H Q => rNe x y H Q ∨ rNeD K x y H Q
theorem op_eq2 (hu : X.A.units + 64 < cLine) : OpR X (compareOp .Eq) (rEq2 X.K) := OpR.or op_eq (op_eqD hu)
theorem op_ne2 (hu : X.A.units + 64 < cLine) : OpR X (compareOp .NotEq) (rNe2 X.K) := OpR.or op_ne (op_neD hu)
theorem eqB_ok {Hf : Hp} {x y : V} {a b : O} {as bs : List Addr} {k : Bool} (s : Same Hf H) (h1 : Ow K mg Hf H x a as) (h2 : Ow K mg Hf H y b bs) (e : eqB a b = some k) :
    (∃ u v, x = .str u ∧ y = .str v ∧ k = (u == v)) ∨ ∃ d e, L2.Dp K H x d ∧ L2.Dp K H y e ∧ SeqAt.shaped d = true ∧ SeqAt.shaped e = true ∧ k = PyData.eqv d e := by
  unfold eqB at e
  split at e
  · rename_i u v e1 e2
    cases e
    have d1 := owDp s h1 e1
    have d2 := owDp s h2 e2
    cases d1; cases d2
    exact .inl ⟨u, v, rfl, rfl, rfl⟩
  · rename_i d e' _ e1 e2
    split at e
    · rename_i hs
      cases e
      exact .inr ⟨d, e', dpTo (owDp s h1 e1), dpTo (owDp s h2 e2), hs.1, hs.2, rfl⟩
    · cases e
  · cases e
theorem pr_eq : PR X (r2L (rEq2 X.K)) eqF := by
  intro xs os H Ex rs ws Q o hl r hf k
  unfold eqF at hf
  split at hf
  · rename_i a b
    cases q : eqB a b with
    | none => rw [q] at hf; cases hf
    | some kk =>
      rw [q] at hf
      cases hf
      obtain ⟨x, y, rfl⟩ := two hl
      obtain ⟨Hf, s, hw, cl⟩ := r.fr
      obtain ⟨_, h1⟩ := hw _ zipHead
      obtain ⟨_, h2⟩ := hw _ zipSnd
      have fin := k (.bl kk) _ (Same.refl _) (r.data fun _ => .bl _)
      rcases eqB_ok s h1 h2 q with ⟨u, v, e1, e2, e3⟩ | ⟨d, e, d1, d2, s1, s2, e3⟩
      · simp only at e1 e2
        subst e1; subst e2; subst e3
        refine .inl ⟨rfl, ?_⟩
        rw [dec_str]
        exact fin
      · subst e3
        exact .inr ⟨d, e, d1, d2, s1, s2, fin⟩
  · cases hf
theorem pr_ne : PR X (r2L (rNe2 X.K)) neF := by
  intro xs os H Ex rs ws Q o hl r hf k
  unfold neF at hf
  split at hf
  · rename_i a b
    cases q : eqB a b with
    | none => rw [q] at hf; cases hf
    | some kk =>
      rw [q] at hf
      cases hf
      obtain ⟨x, y, rfl⟩ := two hl
      obtain ⟨Hf, s, hw, cl⟩ := r.fr
      obtain ⟨_, h1⟩ := hw _ zipHead
      obtain ⟨_, h2⟩ := hw _ zipSnd
      have fin := k (.bl (!kk)) _ (Same.refl _) (r.data fun _ => .bl _)
      rcases eqB_ok s h1 h2 q with ⟨u, v, e1, e2, e3⟩ | ⟨d, e, d1, d2, s1, s2, e3⟩
      · simp only at e1 e2
        subst e1; subst e2; subst e3
        refine .inl ⟨rfl, ?_⟩
        rw [dec_str]
        exact fin
      · subst e3
        exact .inr ⟨d, e, d1, d2, s1, s2, fin⟩
  · cases hf
/-! ### in -/
def flatD : PyData → Bool
  | .none => true | .bool _ => true | .int _ => true | .str _ => true | _ => false
theorem flat_of {Hf : Hp} {v : V} {d : PyData} (h : Dp K Hf v d) (f : flatD d = true) : flatV v = true := by cases h <;> first | rfl | simp [flatD] at f
theorem flatAll_of {Hf : Hp} : ∀ {vs : List V} {ds : List PyData}, DpAll K Hf vs ds → ds.all flatD = true → vs.all flatV = true
  | _, _, .nil, _ => rfl
  | _, _, .cons a t, f => by
    simp only [List.all_cons, Bool.and_eq_true] at f ⊢
    exact ⟨flat_of a f.1, flatAll_of t f.2⟩
theorem eqV_of {Hf : Hp} {v u : V} {d e : PyData} (h : Dp K Hf v d) (h2 : Dp K Hf u e) (f : flatD d = true) (f2 : flatD e = true) : eqV v u = PyData.eqv d e := by
  cases h <;> cases h2 <;> first | (simp [flatD] at f; done) | (simp [flatD] at f2; done) | simp [eqV, PyData.eqv]
theorem inV_of {Hf : Hp} {u : V} {e : PyData} (h2 : Dp K Hf u e) (f2 : flatD e = true) : ∀ {vs : List V} {ds : List PyData}, DpAll K Hf vs ds → ds.all flatD = true → inV u vs = ds.any fun z => PyData.eqv z e
  | _, _, .nil, _ => rfl
  | _, _, .cons a t, f => by
    simp only [List.all_cons, Bool.and_eq_true] at f
    have ih := inV_of h2 f2 t f.2
    unfold inV at ih ⊢
    simp only [List.any_cons, ih, eqV_of a h2 f.1 f2]
def asLT (o : O) : Option (List PyData) := match asL o with
  | some ds => some ds
  | none => match o with
    | .gL ds => some ds
    | .gT ds => some ds
    | o => asT o
def inB (a b : O) : Option Bool := match a, b with
  | .d (.str x), .d (.str z) => match x.cps.toList with
    | [c] => some (decide (c ∈ z.cps.toList))
    | _ => none
  | .d e, b => match asLT b with
    | some ds => if flatD e = true ∧ ds.all flatD = true then some (ds.any fun z => PyData.eqv z e) else none
    | none => none
  | _, _ => none
def rInS (neg : Bool) : R2 := fun x y H Q => ∃ (c : Nat) (z : Str), x = .str ⟨#[c]⟩ ∧ y = .str z ∧ Q (.bl (if neg then !decide (c ∈ z.cps.toList) else decide (c ∈ z.cps.toList))) H
def rIn2 (K : PySem.W.Frag) (neg : Bool) : R2 := fun x y H Q => rInS neg x y H Q ∨ rIn K neg x y H Q
theorem op_in2 : OpR X (compareOp .In) (rIn2 X.K false) := OpR.or op_in_sign op_in_seq
theorem op_notIn2 : OpR X (compareOp .NotIn) (rIn2 X.K true) := OpR.or op_notIn_sign op_notIn_seq
def inF (neg : Bool) : List O → Option O
  | [a, b] => match inB a b with | some k => some (.d (.bool (if neg then !k else k))) | none => none
  | _ => none
theorem owLTseq {Hf : Hp} {v : V} {o : O} {as : List Addr} {ds : List PyData} (s : Same Hf H) (h : Ow K mg Hf H v o as) (e : asLT o = some ds) : ∃ a vs, v = .ref a ∧ (SqL K H a vs ∨ SqT K H a vs) ∧ DpAll K Hf vs ds := by
  unfold asLT at e
  split at e
  · rename_i ds' e1
    cases e
    obtain ⟨a, vs, e2, q, p⟩ := owL s h e1
    exact ⟨a, vs, e2, .inl q, p⟩
  · split at e
    · cases e
      cases h with
      | gL q p => exact ⟨_, _, rfl, .inl (s.seq q), p⟩
    · cases e
      cases h with
      | gT q p => exact ⟨_, _, rfl, .inr (sameT s q), p⟩
    · obtain ⟨a, vs, e2, q, p⟩ := owT s h e
      exact ⟨a, vs, e2, .inr q, p⟩
theorem str1 {x : Str} {c : Nat} (h : x.cps.toList = [c]) : x = ⟨#[c]⟩ := by
  obtain ⟨cs⟩ := x
  have : cs = #[c] := by
    apply Array.toList_inj.mp
    simpa using h
  rw [this]
theorem pr_in {neg : Bool} : PR X (r2L (rIn2 X.K neg)) (inF neg) := by
  intro xs os H Ex rs ws Q o hl r hf k
  unfold inF at hf
  split at hf
  · rename_i a b
    cases q : inB a b with
    | none => rw [q] at hf; cases hf
    | some kk =>
      rw [q] at hf
      cases hf
      obtain ⟨x, y, rfl⟩ := two hl
      obtain ⟨Hf, s, hw, cl⟩ := r.fr
      obtain ⟨_, h1⟩ := hw _ zipHead
      obtain ⟨_, h2⟩ := hw _ zipSnd
      have fin := k (.bl (if neg then !kk else kk)) _ (Same.refl _) (r.data fun _ => .bl _)
      unfold inB at q
      split at q
      · rename_i u z
        split at q
        · rename_i c hc
          cases q
          have e1 := owS h1
          have e2 := owS h2
          simp only at e1 e2
          subst e1; subst e2
          exact .inl ⟨c, z, by rw [str1 hc], rfl, fin⟩
        · cases q
      · rename_i e b' _
        split at q
        · rename_i ds e1
          split at q
          · rename_i hfl
            cases q
            obtain ⟨ad, vs, e2, sq, p⟩ := owLTseq s h2 e1
            simp only at e2
            subst e2
            cases h1 with
            | d h1 =>
              refine .inr ⟨ad, vs, rfl, sq, flat_of h1 hfl.1, flatAll_of p hfl.2, ?_⟩
              rw [inV_of h1 hfl.1 p hfl.2]
              exact fin
          · cases q
        · cases q
      · cases q
  · cases hf
/-! ### items, slices -/
def ixF : List O → Option O
  | [.d (.str z), .d (.int i)] => if lenOk z.length = true then match atI z.cps.toList i with
      | some c => some (.d (.str ⟨#[c]⟩))
      | none => none else none
  | [a, .d (.int i)] => match asLT a with
    | some ds => match atI ds i with
      | some x => some (.d x)
      | none => none
    | none => none
  | _ => none
theorem atI_dp {Hf : Hp} {vs : List V} {ds : List PyData} {i : Int} {x : PyData} (h : DpAll K Hf vs ds) (e : atI ds i = some x) : ∃ v, atI vs i = some v ∧ Dp K Hf v x := by
  unfold atI at e ⊢
  rw [dpLen h]
  cases q : ixN ds.length i with
  | none => rw [q] at e; cases e
  | some j =>
    rw [q] at e
    simp only [Option.bind_some] at e ⊢
    exact dpGet? h e
theorem pr_ix : PR X (r2L (rIx X.K)) ixF := by
  intro xs os H Ex rs ws Q o hl r hf k
  unfold ixF at hf
  split at hf
  · rename_i z i
    split at hf
    · rename_i hlen
      split at hf
      · rename_i c hc
        cases hf
        obtain ⟨x, y, rfl⟩ := two hl
        obtain ⟨Hf, s, hw, cl⟩ := r.fr
        obtain ⟨_, h1⟩ := hw _ zipHead
        obtain ⟨_, h2⟩ := hw _ zipSnd
        obtain rfl := owS h1
        obtain rfl := owI h2
        exact .inr (.inr ⟨z, i, c, rfl, rfl, lenOk_le hlen, hc, k _ _ (Same.refl _) (r.data fun _ => .str _)⟩)
      · cases hf
    · cases hf
  · rename_i a i _
    split at hf
    · rename_i ds e1
      split at hf
      · rename_i y e2
        cases hf
        obtain ⟨x, y, rfl⟩ := two hl
        obtain ⟨Hf, s, hw, cl⟩ := r.fr
        obtain ⟨_, h1⟩ := hw _ zipHead
        obtain ⟨_, h2⟩ := hw _ zipSnd
        obtain rfl := owI h2
        obtain ⟨ad, vs, e3, sq, p⟩ := owLTseq s h1 e1
        simp only at e3
        subst e3
        obtain ⟨v, e4, dv⟩ := atI_dp p e2
        have fin := k v _ (Same.refl _) (cl [v] _ (.cons dv .nil))
        rcases sq with sq | sq
        · exact .inl ⟨ad, vs, i, v, rfl, rfl, sq, e4, fin⟩
        · exact .inr (.inl ⟨ad, vs, i, v, rfl, rfl, sq, e4, fin⟩)
      · cases hf
    · cases hf
  · cases hf
end
end Z

namespace Z
open PySem PySem.Spec L2
section
variable {X : Cx} {W : WX} {pu pv pw : Bool} {H H' : Hp} {Ex : List (Addr × HO)} {σ σ' : L2.St} {g : Gs} {T T' ws ws' rs : Roots} {e a b o lo hi : Expr} {es : List Expr} {m : M O} {ms : M (List O)} {pos p p2 apos : Pos} {k j np : Nat} {x : Str}
theorem ev_ix {r : R2} {f : List O → Option O} (hr : IxR X r) (pr : PR X (r2L r) f) (h : EvAs X W pu [a, b] ms) (hs : PlainIx b := by exact fun _ _ => rfl) : Ev X W pu (.Subscript a b pos) (opM f ms) := by
  obtain ⟨ts, g1, g2⟩ := h.ex
  cases g1 with
  | cons p1 _ g1 =>
    cases g1 with
    | cons p2 _ g1 =>
      cases g1
      exact ⟨_, pe_ix hr p1 p2 hs, opCore pr g2⟩
/-! ### slices -/
def rSlAll (K : PySem.W.Frag) : V → Option Int → Option Int → Hp → VK → Prop := fun x lo hi H Q => rSlL K x lo hi H Q ∨ rSlA K x lo hi H Q ∨ rSlS x lo hi H Q
theorem sl_all : SlR X (rSlAll X.K) := SlR.or sl_list (SlR.or sl_tupA sl_str)
def cutD {α : Type} (xs : List α) (lo hi : Option Int) : List α := (xs.drop (HT.sIx xs.length 0 lo)).take (HT.sIx xs.length xs.length hi - HT.sIx xs.length 0 lo)
def slB (o : O) (lo hi : Option Int) : Option O := match o with
  | .d (.str z) => if lenOk z.length = true then some (.d (.str (cutS z lo hi))) else none
  | o => match asL o with
    | some ds => some (.lst ((cutD ds lo hi).map O.d))
    | none => match asT o with
      | some ds => some (.d (.tuple (cutD ds lo hi)))
      | none => none
theorem cut_dp {K : PySem.W.Frag} {Hf : Hp} {vs : List V} {ds : List PyData} (h : DpAll K Hf vs ds) (lo hi : Option Int) : DpAll K Hf (cutV vs lo hi) (cutD ds lo hi) := by
  unfold cutV cutD
  rw [dpLen h]
  exact dpTake _ (dpDrop _ h)
theorem slB_ok {v : V} {o o' : O} {lo hi : Option Int} {Q : VK} (r : Rel X.K X.mg H Ex rs ws) (hv : (v, o) ∈ ws) (e : slB o lo hi = some o') (k : ∀ v H', Same H H' → Rel X.K X.mg H' Ex ((v, o') :: rs) ws → Q v H') : rSlAll X.K v lo hi H Q := by
  obtain ⟨Hf, s, hw, cl⟩ := r.fr
  obtain ⟨_, h1⟩ := hw _ hv
  unfold slB at e
  split at e
  · rename_i z
    split at e
    · rename_i hl
      cases e
      obtain rfl := owS h1
      exact .inr (.inr ⟨z, rfl, lenOk_le hl, k _ _ (Same.refl _) (r.data fun _ => .str _)⟩)
    · cases e
  · rename_i o _
    split at e
    · rename_i ds e1
      cases e
      obtain ⟨ad, vs, e2, sq, pp⟩ := owL s h1 e1
      simp only at e2
      subst e2
      refine .inl ⟨ad, vs, rfl, sq, fun q hq => k _ _ (sameNew hq _) ?_⟩
      exact (cl _ _ (cut_dp pp lo hi)).mkLst (dpLen (cut_dp pp lo hi)) hq
    · split at e
      · rename_i ds e1
        cases e
        have hD := owTD h1 e1
        obtain ⟨ad, vs, e2, sq, pp⟩ := owT s h1 e1
        simp only at e2
        subst e2
        refine .inr (.inl ⟨ad, vs, rfl, sq, fun hwhole => k _ _ (Same.refl _) ?_, fun _ q hq => k _ _ (sameNew hq _) ?_⟩)
        · have e3 : cutD ds lo hi = ds := by
            unfold cutD
            rw [dpLen pp] at hwhole
            rw [hwhole.1, hwhole.2, List.drop_zero, Nat.sub_zero, List.take_length]
          rw [e3]
          exact cl [_] [_] (.cons hD .nil)
        · exact (cl _ _ (cut_dp pp lo hi)).mkTupl (dpLen (cut_dp pp lo hi)) hq
      · cases e
def slF (l h : Bool) : List O → Option O
  | [a] => if l = false ∧ h = false then slB a none none else none
  | [a, .d (.int i)] => if l = true ∧ h = false then slB a (some i) none else if l = false ∧ h = true then slB a none (some i) else none
  | [a, .d (.int i), .d (.int j)] => if l = true ∧ h = true then slB a (some i) (some j) else none
  | _ => none
theorem ev_slLo (h : EvAs X W pu [a, lo] ms) : Ev X W pu (.Subscript a (.Slice (some lo) none none p2) pos) (opM (slF true false) ms) := by
  obtain ⟨ts, g1, g2⟩ := h.ex
  cases g1 with
  | cons p1 _ g1 =>
    cases g1 with
    | cons p2 _ g1 =>
      cases g1
      refine ⟨_, pe_slice sl_all p1 (po_some p2) po_none, opCore (r := fun xs H Q => match xs with | [x, y] => ∃ i, y = V.int i ∧ rSlAll X.K x (some i) none H Q | _ => False) (fun xs os H Ex rs ws Q o hl r hf kk => ?_) g2⟩
      unfold slF at hf
      split at hf
      · simp at hf
      · rename_i a i
        simp only [and_self, if_true] at hf
        obtain ⟨x, y, rfl⟩ := two hl
        obtain ⟨Hf, s, hw, cl⟩ := r.fr
        obtain ⟨_, h2⟩ := hw _ zipSnd
        exact ⟨i, owI h2, slB_ok r zipHead hf kk⟩
      · simp at hf
      · cases hf
theorem ev_slHi (h : EvAs X W pu [a, hi] ms) : Ev X W pu (.Subscript a (.Slice none (some hi) none p2) pos) (opM (slF false true) ms) := by
  obtain ⟨ts, g1, g2⟩ := h.ex
  cases g1 with
  | cons p1 _ g1 =>
    cases g1 with
    | cons p2 _ g1 =>
      cases g1
      refine ⟨_, pe_slice sl_all p1 po_none (po_some p2), opCore (r := fun xs H Q => match xs with | [x, y] => ∃ i, y = V.int i ∧ rSlAll X.K x none (some i) H Q | _ => False) (fun xs os H Ex rs ws Q o hl r hf kk => ?_) g2⟩
      unfold slF at hf
      split at hf
      · simp at hf
      · rename_i a i
        simp at hf
        obtain ⟨x, y, rfl⟩ := two hl
        obtain ⟨Hf, s, hw, cl⟩ := r.fr
        obtain ⟨_, h2⟩ := hw _ zipSnd
        exact ⟨i, owI h2, slB_ok r zipHead hf kk⟩
      · simp at hf
      · cases hf
def asI : O → M Int := fun o g => match o with
  | .d (.int b) => .ok b g
  | _ => .bad
theorem wpI {o : O} {g : Gs} {A : Int → Gs → Prop} {B : Exn → Gs → Prop} (h : Wp (asI o g) A B) : ∃ b, o = .d (.int b) ∧ A b g := by
  unfold asI at h
  split at h
  · exact ⟨_, rfl, h⟩
  · exact h.elim
def optM (o : Option O) : M O := fun g => match o with
  | some r => .ok r g
  | none => .bad
theorem wpOpt {o : Option O} {g : Gs} {A : O → Gs → Prop} {B : Exn → Gs → Prop} (h : Wp (optM o g) A B) : ∃ b, o = some b ∧ A b g := by
  unfold optM at h
  split at h
  · exact ⟨_, rfl, h⟩
  · exact h.elim
def slLhM (ma ml mh : M O) : M O := M.bd ma fun o => M.bd ml fun oi => M.bd (asI oi) fun i => M.bd mh fun oj => M.bd (asI oj) fun j => optM (slB o (some i) (some j))
theorem ev_slLh {ml mh : M O} (ha : EvP X W pu a m) (hl : Ev X W true lo ml) (hh : Ev X W true hi mh) : Ev X W pu (.Subscript a (.Slice (some lo) (some hi) none p2) pos) (slLhM m ml mh) := by
  obtain ⟨ta, a1, a2⟩ := ha.ex
  obtain ⟨tl, l1, l2⟩ := hl.ex
  obtain ⟨th, h1, h2⟩ := hh.ex
  refine ⟨_, pe_slice sl_all a1 (po_some l1) (po_some h1), fun σ H Q g T Ex ws a w => ?_⟩
  refine a2 σ H _ g T Ex ws a (w.bd.imp (fun o g1 kk v H1 s1 b1 => ?_) fun _ _ kk => kk)
  refine l2 σ H1 _ g1 _ Ex _ b1 (kk.bd.imp (fun oi g2 kk u H2 s2 b2 => ?_) fun x g2 kk H' cls d a2 e => kk H' cls d a2 e)
  obtain ⟨i, rfl, k2⟩ := wpI kk.bd
  refine ⟨i, b2.top.isI, ?_⟩
  refine h2 σ H2 _ g2 _ Ex _ b2.drop (k2.bd.imp (fun oj g3 kk z H3 s3 b3 => ?_) fun x g2 kk H' cls d a2 e => kk H' cls d a2 e)
  obtain ⟨j, rfl, k3⟩ := wpI kk.bd
  obtain ⟨o', ho, k4⟩ := wpOpt k3
  refine ⟨j, b3.top.isI, ?_⟩
  refine slB_ok b3.drop.rel List.mem_cons_self ho fun v H' s4 r4 => k4 v H' (fun t => ?_) (.ofTop b3.fit (r4.views fun p m => List.mem_cons_of_mem _ m))
  obtain ⟨e1, f1⟩ := s1 t
  obtain ⟨e2, f2⟩ := s2 rfl
  obtain ⟨e3, f3⟩ := s3 rfl
  exact ⟨e3.trans (e2.trans e1), f1.trans (f2.trans (f3.trans s4))⟩
/-! ### built-in functions and types, called -/
theorem ev_bi {id : String} {r : List V → Hp → VK → Prop} {f : List O → Option O} (hc : CallR X (.builtin id) r) (pr : PR X r f) (hm : X.mg x = none) (hv : bootBuiltins x = some (.builtin id)) (h : EvAs X W pu (e :: es) ms) (hg : Gl X x := by rfl)
    (hn : x ≠ "__name__" := by decide) (hdb : (x == ("__debug__" : Str)) = false := by decide) (he : starEach (e :: es) X.env = (false, eval e X.env) :: starEach es X.env := by rfl) (hpl : (backTo pos (starEach es X.env)).any (·.1) = false := by rfl) : Ev X W pu (.Call (.Name x p) (e :: es) [] pos) (opM f ms) := by
  obtain ⟨ts, g1, g2⟩ := h.ex
  exact ⟨_, pe_callB hc hg hm hv g1.pa hn hdb he hpl, opCore pr g2⟩
theorem ev_ty {n : String} {r : List V → Hp → VK → Prop} {f : List O → Option O} (hc : CallR X (.type n) r) (pr : PR X r f) (hm : X.mg x = none) (hv : bootBuiltins x = some (.type n)) (h : EvAs X W pu (e :: es) ms) (hg : Gl X x := by rfl)
    (hn : x ≠ "__name__" := by decide) (hdb : (x == ("__debug__" : Str)) = false := by decide) (he : starEach (e :: es) X.env = (false, eval e X.env) :: starEach es X.env := by rfl) (hpl : (backTo pos (starEach es X.env)).any (·.1) = false := by rfl) : Ev X W pu (.Call (.Name x p) (e :: es) [] pos) (opM f ms) := by
  obtain ⟨ts, g1, g2⟩ := h.ex
  exact ⟨_, pe_callTy hc hg hm hv g1.pa hn hdb he hpl, opCore pr g2⟩
/-- len -/
def lenB : O → Option Nat
  | .d (.str z) => if lenOk z.length = true then some z.length else none
  | .d (.list ds) => some ds.length
  | .d (.tuple ds) => some ds.length
  | .lst os => some os.length
  | .gL ds => some ds.length
  | .gT ds => some ds.length
  | _ => none
def lenF : List O → Option O
  | [a] => match lenB a with | some n => some (.d (.int (n : Nat))) | none => none
  | _ => none
theorem pr_len : PR X (fun xs H Q => ∃ x n, xs = [x] ∧ LenV X.K x H n ∧ Q (.int n) H) lenF := by
  intro xs os H Ex rs ws Q o hl r hf kk
  unfold lenF at hf
  split at hf
  · rename_i a
    obtain ⟨x, rfl⟩ := one hl
    obtain ⟨Hf, s, hw, cl⟩ := r.fr
    obtain ⟨_, h1⟩ := hw _ zipHead
    simp only at h1
    split at hf
    · rename_i n hn
      cases hf
      have fin := kk (.int n) _ (Same.refl _) (r.data fun _ => .int _)
      refine ⟨x, n, rfl, ?_, fin⟩
      unfold lenB at hn
      split at hn
      · rename_i z
        split at hn
        · rename_i hz
          cases hn
          obtain rfl := owS h1
          exact ⟨lenOk_le hz, rfl⟩
        · cases hn
      · cases hn
        cases h1 with
        | d h1 => cases h1 with | lst q t => exact .inl ⟨_, SqL.of (s _ _ q), (dpLen t).symm⟩
      · cases hn
        cases h1 with
        | d h1 => cases h1 with | tup q t => exact .inr ⟨_, SqT.of (s _ _ q), (dpLen t).symm⟩
      · cases hn
        cases h1 with
        | lst q t => exact .inl ⟨_, SqL.of q, (owLLen t).symm⟩
      · cases hn
        cases h1 with
        | gL q t => exact .inl ⟨_, s.seq q, (dpLen t).symm⟩
      · cases hn
        cases h1 with
        | gT q t => exact .inr ⟨_, sameT s q, (dpLen t).symm⟩
      · cases hn
    · cases hf
  · cases hf
/-- min, max of two ints -/
def max2F : List O → Option O := i2F (fun _ _ => true) fun i j => .int (if j > i then j else i)
def min2F : List O → Option O := i2F (fun _ _ => true) fun i j => .int (if j < i then j else i)
theorem pr_fun2 {gv : Int → Int → V} {f : Int → Int → PyData} (hd : ∀ i j Hf, Dp X.K Hf (gv i j) (f i j)) : PR X (fun xs H Q => ∃ i j, xs = [.int i, .int j] ∧ Q (gv i j) H) (i2F (fun _ _ => true) f) := by
  intro xs os H Ex rs ws Q o hl r hf kk
  unfold i2F at hf
  split at hf
  · rename_i i j
    simp only [if_true] at hf
    cases hf
    obtain ⟨x, y, rfl⟩ := two hl
    obtain ⟨Hf, s, hw, cl⟩ := r.fr
    obtain ⟨_, h1⟩ := hw _ zipHead
    obtain ⟨_, h2⟩ := hw _ zipSnd
    obtain rfl := owI h1
    obtain rfl := owI h2
    exact ⟨i, j, rfl, kk _ _ (Same.refl _) (r.data (hd i j))⟩
  · cases hf
theorem pr_max2 : PR X (fun xs H Q => ∃ i j, xs = [.int i, .int j] ∧ Q (.int (if j > i then j else i)) H) max2F := pr_fun2 fun _ _ _ => .int _
theorem pr_min2 : PR X (fun xs H Q => ∃ i j, xs = [.int i, .int j] ∧ Q (.int (if j < i then j else i)) H) min2F := pr_fun2 fun _ _ _ => .int _
/-- sum of ints, all, any -/
def intsOf : List PyData → Option (List Int)
  | [] => some []
  | .int i :: r => match intsOf r with | some l => some (i :: l) | none => none
  | _ => none
def blsOf : List PyData → Option (List Bool)
  | [] => some []
  | .bool i :: r => match blsOf r with | some l => some (i :: l) | none => none
  | _ => none
def strsOf : List PyData → Option (List Str)
  | [] => some []
  | .str i :: r => match strsOf r with | some l => some (i :: l) | none => none
  | _ => none
theorem intsOf_ok {K : PySem.W.Frag} {Hf : Hp} : ∀ {ds : List PyData} {ns : List Int} {vs : List V}, intsOf ds = some ns → DpAll K Hf vs ds → vs = ns.map V.int
  | [], ns, _, h, .nil => by simp only [intsOf, Option.some.injEq] at h; subst h; rfl
  | d :: r, ns, _, h, .cons a t => by
    cases d with
    | int i =>
      simp only [intsOf] at h
      cases q : intsOf r with
      | none => rw [q] at h; cases h
      | some l => rw [q] at h; cases h; cases a; rw [intsOf_ok q t]; rfl
    | _ => simp [intsOf] at h
theorem blsOf_ok {K : PySem.W.Frag} {Hf : Hp} : ∀ {ds : List PyData} {ns : List Bool} {vs : List V}, blsOf ds = some ns → DpAll K Hf vs ds → vs = ns.map V.bl
  | [], ns, _, h, .nil => by simp only [blsOf, Option.some.injEq] at h; subst h; rfl
  | d :: r, ns, _, h, .cons a t => by
    cases d with
    | bool i =>
      simp only [blsOf] at h
      cases q : blsOf r with
      | none => rw [q] at h; cases h
      | some l => rw [q] at h; cases h; cases a; rw [blsOf_ok q t]; rfl
    | _ => simp [blsOf] at h
theorem strsOf_ok {K : PySem.W.Frag} {Hf : Hp} : ∀ {ds : List PyData} {ns : List Str} {vs : List V}, strsOf ds = some ns → DpAll K Hf vs ds → vs = ns.map V.str
  | [], ns, _, h, .nil => by simp only [strsOf, Option.some.injEq] at h; subst h; rfl
  | d :: r, ns, _, h, .cons a t => by
    cases d with
    | str i =>
      simp only [strsOf] at h
      cases q : strsOf r with
      | none => rw [q] at h; cases h
      | some l => rw [q] at h; cases h; cases a; rw [strsOf_ok q t]; rfl
    | _ => simp [strsOf] at h
def sumF : List O → Option O
  | [a] => match (match asL a with | some ds => intsOf ds | none => none) with | some ns => some (.d (.int ns.sum)) | none => none
  | _ => none
def allF : List O → Option O
  | [a] => match (match asL a with | some ds => blsOf ds | none => none) with | some ns => some (.d (.bool (ns.all id))) | none => none
  | _ => none
def anyF : List O → Option O
  | [a] => match (match asL a with | some ds => blsOf ds | none => none) with | some ns => some (.d (.bool (ns.any id))) | none => none
  | _ => none
theorem pr_sum : PR X (rSum X.K) sumF := by
  intro xs os H Ex rs ws Q o hl r hf kk
  unfold sumF at hf
  split at hf
  · obtain ⟨x, rfl⟩ := one hl
    obtain ⟨Hf, s, hw, cl⟩ := r.fr
    obtain ⟨_, h1⟩ := hw _ zipHead
    split at hf
    · rename_i ns e0
      cases hf
      split at e0
      · rename_i ds e1
        obtain ⟨ad, vs, e3, sq, pp⟩ := owL s h1 e1
        simp only at e3
        subst e3
        obtain rfl := intsOf_ok e0 pp
        exact ⟨ad, ns, rfl, sq, kk _ _ (Same.refl _) (r.data fun _ => .int _)⟩
      · cases e0
    · cases hf
  · cases hf
theorem pr_all : PR X (rAll X.K) allF := by
  intro xs os H Ex rs ws Q o hl r hf kk
  unfold allF at hf
  split at hf
  · obtain ⟨x, rfl⟩ := one hl
    obtain ⟨Hf, s, hw, cl⟩ := r.fr
    obtain ⟨_, h1⟩ := hw _ zipHead
    split at hf
    · rename_i ns e0
      cases hf
      split at e0
      · rename_i ds e1
        obtain ⟨ad, vs, e3, sq, pp⟩ := owL s h1 e1
        simp only at e3
        subst e3
        obtain rfl := blsOf_ok e0 pp
        exact ⟨ad, ns, rfl, sq, kk _ _ (Same.refl _) (r.data fun _ => .bl _)⟩
      · cases e0
    · cases hf
  · cases hf
theorem pr_any : PR X (rAny X.K) anyF := by
  intro xs os H Ex rs ws Q o hl r hf kk
  unfold anyF at hf
  split at hf
  · obtain ⟨x, rfl⟩ := one hl
    obtain ⟨Hf, s, hw, cl⟩ := r.fr
    obtain ⟨_, h1⟩ := hw _ zipHead
    split at hf
    · rename_i ns e0
      cases hf
      split at e0
      · rename_i ds e1
        obtain ⟨ad, vs, e3, sq, pp⟩ := owL s h1 e1
        simp only at e3
        subst e3
        obtain rfl := blsOf_ok e0 pp
        exact ⟨ad, ns, rfl, sq, kk _ _ (Same.refl _) (r.data fun _ => .bl _)⟩
      · cases e0
    · cases hf
  · cases hf
/-- int of an int, of a truth -/
def intF : List O → Option O
  | [.d (.int i)] => some (.d (.int i))
  | [.d (.bool k)] => some (.d (.int (if k then 1 else 0)))
  | _ => none
theorem pr_int : PR X (fun xs H Q => (∃ i, xs = [.int i] ∧ Q (.int i) H) ∨ ∃ k, xs = [.bl k] ∧ Q (.int (if k then 1 else 0)) H) intF := by
  intro xs os H Ex rs ws Q o hl r hf kk
  unfold intF at hf
  split at hf
  · rename_i i
    cases hf
    obtain ⟨x, rfl⟩ := one hl
    obtain ⟨Hf, s, hw, cl⟩ := r.fr
    obtain ⟨_, h1⟩ := hw _ zipHead
    obtain rfl := owI h1
    exact .inl ⟨i, rfl, kk _ _ (Same.refl _) (r.data fun _ => .int _)⟩
  · rename_i i
    cases hf
    obtain ⟨x, rfl⟩ := one hl
    obtain ⟨Hf, s, hw, cl⟩ := r.fr
    obtain ⟨_, h1⟩ := hw _ zipHead
    obtain rfl := owB h1
    exact .inr ⟨i, rfl, kk _ _ (Same.refl _) (r.data fun _ => .int _)⟩
  · cases hf
/-- tuple(..), list(..) of data in a row -/
def tupF : List O → Option O
  | [a] => match asL a with
    | some ds => some (.d (.tuple ds))
    | none => match asT a with | some ds => some (.d (.tuple ds)) | none => none
  | _ => none
def lstF : List O → Option O
  | [a] => match asLT a with | some ds => some (.lst (ds.map O.d)) | none => none
  | _ => none
theorem pr_tup : PR X (fun xs H Q => ∃ p ys, xs = [.ref p] ∧ ((SqL X.K H p ys ∧ ∀ l, H l = none → Q (.ref l) (upd H l (.tup ys))) ∨ (SqT X.K H p ys ∧ Q (.ref p) H))) tupF := by
  intro xs os H Ex rs ws Q o hl r hf kk
  unfold tupF at hf
  split at hf
  · obtain ⟨x, rfl⟩ := one hl
    obtain ⟨Hf, s, hw, cl⟩ := r.fr
    obtain ⟨_, h1⟩ := hw _ zipHead
    split at hf
    · rename_i ds e1
      cases hf
      obtain ⟨ad, vs, e3, sq, pp⟩ := owL s h1 e1
      simp only at e3
      subst e3
      exact ⟨ad, vs, rfl, .inl ⟨sq, fun q hq => kk _ _ (sameNew hq _) ((cl _ _ pp).mkTupl (dpLen pp) hq)⟩⟩
    · split at hf
      · rename_i ds e1
        cases hf
        have hD := owTD h1 e1
        obtain ⟨ad, vs, e3, sq, pp⟩ := owT s h1 e1
        simp only at e3
        subst e3
        exact ⟨ad, vs, rfl, .inr ⟨sq, kk _ _ (Same.refl _) (cl [_] [_] (.cons hD .nil))⟩⟩
      · cases hf
  · cases hf
theorem pr_lst : PR X (fun xs H Q => ∃ p ys, xs = [.ref p] ∧ (SqL X.K H p ys ∨ SqT X.K H p ys) ∧ ∀ l, H l = none → Q (.ref l) (upd H l (.lst ys))) lstF := by
  intro xs os H Ex rs ws Q o hl r hf kk
  unfold lstF at hf
  split at hf
  · obtain ⟨x, rfl⟩ := one hl
    obtain ⟨Hf, s, hw, cl⟩ := r.fr
    obtain ⟨_, h1⟩ := hw _ zipHead
    split at hf
    · rename_i ds e1
      cases hf
      obtain ⟨ad, vs, e3, sq, pp⟩ := owLTseq s h1 e1
      simp only at e3
      subst e3
      exact ⟨ad, vs, rfl, sq, fun q hq => kk _ _ (sameNew hq _) ((cl _ _ pp).mkLst (dpLen pp) hq)⟩
    · cases hf
  · cases hf
/-! ### isinstance of a built-in class -/
def tyN : O → String
  | .d .none => "NoneType"
  | .d (.bool _) => "bool"
  | .d (.int _) => "int"
  | .d (.str _) => "str"
  | .d (.list _) => "list"
  | .d (.tuple _) => "tuple"
  | .lst _ => "list"
  | .dK _ => "dict"
  | .dT _ => "dict"
  | _ => ""
def isiM (n : String) (m : M O) : M O := M.bd m fun o g => if tyN o = "" then .bad else match kitB (tyN o) n with
  | some k => .ok (.d (.bool k)) g
  | none => .bad
theorem tyX_of {K : PySem.W.Frag} {mg : Str → Option Value} {Hf : Hp} {v : V} {o : O} {as : List Addr} (s : Same Hf H) (h : Ow K mg Hf H v o as) (hn : tyN o ≠ "") : TyX K H v (.type (tyN o)) := by
  cases h with
  | d h =>
    cases h with
    | non => exact .base .non
    | bl b => exact .base (.bl b)
    | int i => exact .base (.int i)
    | str z => exact .base (.str z)
    | lst q t => exact .base (.lst (s _ _ q))
    | tup q t => exact .base (.tup (s _ _ q))
  | lst q t => exact .base (.lst q)
  | dK q _ t => exact .base (.dK q)
  | dT q _ t => exact .base (.dT q)
  | _ => exact absurd rfl hn
theorem ev_isi {n : Str} {nt : String} (hP : EvP X W pu a m) (hm : X.mg "isinstance" = none) (hv : bootBuiltins "isinstance" = some (.builtin "isinstance")) (hmn : X.mg n = none) (hvn : bootBuiltins n = some (.type nt)) (hg : Gl X "isinstance" := by rfl) (hgn : Gl X n := by rfl) (hnn : n ≠ "__name__" := by decide) (hnd : (n == ("__debug__" : Str)) = false := by decide)
    (he : starEach [a, .Name n p2] X.env = (false, eval a X.env) :: starEach [.Name n p2] X.env := by rfl) (he2 : starEach [.Name n p2] X.env = (false, eval (.Name n p2) X.env) :: starEach [] X.env := by rfl) (hpl : (backTo pos (starEach [.Name n p2] X.env)).any (·.1) = false := by rfl) :
    Ev X W pu (.Call (.Name "isinstance" p) [a, .Name n p2] [] pos) (isiM nt m) := by
  obtain ⟨t, h1, h2⟩ := hP.ex
  have pt : PE X (.Name n p2) (tC (.ty nt)) := pe_bltn hgn hmn hvn rfl hnn hnd
  refine ⟨_, pe_callB call_isi hg hm hv (pa_cons h1 (pa_cons pt pa_nil he2) he) (by decide) (by decide) he hpl, fun σ H Q g T Ex ws a w => h2 σ H _ g T Ex ws a (w.bd.imp (fun o g' kk v H' s a' => ?_) fun _ _ kk => kk)⟩
  obtain ⟨Hf, sm, hw, cl⟩ := a'.rel.fr
  obtain ⟨_, h1⟩ := hw _ List.mem_cons_self
  simp only at h1
  split at kk
  · exact kk.elim
  · rename_i hN
    cases q : kitB (tyN o) nt with
    | none => rw [q] at kk; exact kk.elim
    | some b =>
      rw [q] at kk
      refine ⟨v, .ty nt, _, .type nt, b, rfl, .ty nt, tyX_of sm h1 hN, kit_ty q, ?_⟩
      exact kk _ H' s ((a'.data fun _ => .bl _).views fun p m => List.mem_cons_of_mem _ m)
end
end Z

namespace Z
open PySem PySem.Spec L2
section
variable {X : Cx} {W : WX} {pu pv pw : Bool} {H H' : Hp} {Ex : List (Addr × HO)} {σ σ' : L2.St} {g : Gs} {T T' ws ws' rs : Roots} {e a b o lo hi : Expr} {es : List Expr} {m : M O} {ms : M (List O)} {pos p p2 apos : Pos} {k j np : Nat} {x : Str}
/-! ### texts -/
def asS : O → M Str := fun o g => match o with
  | .d (.str b) => .ok b g
  | _ => .bad
theorem wpS {o : O} {g : Gs} {A : Str → Gs → Prop} {B : Exn → Gs → Prop} (h : Wp (asS o g) A B) : ∃ b, o = .d (.str b) ∧ A b g := by
  unfold asS at h
  split at h
  · exact ⟨_, rfl, h⟩
  · exact h.elim
theorem Rel.isS {K : PySem.W.Frag} {mg : Str → Option Value} {v : V} {i : Str} (r : Rel K mg H Ex ((v, .d (.str i)) :: rs) ws) : v = .str i := by
  obtain ⟨Hf, s, h, _⟩ := r.headDp
  cases h; rfl
def joinB (s : Str) (o : O) : Option O := match (match asLT o with | some ds => strsOf ds | none => none) with
  | some ys => if lenOk ((ys.map (·.length)).sum + ys.length * s.length) = true then some (.d (.str (Txt.join s ys))) else none
  | none => none
def joinM (mo ma : M O) : M O := M.bd mo fun o => M.bd (asS o) fun s => M.bd ma fun x => optM (joinB s x)
theorem ev_join {ma : M O} (ho : Ev X W pu o m) (ha : EvP X W pv a ma) (hs : starEach [a] X.env = [(false, eval a X.env)] := by rfl) (hbase : attributeBase o "join" X.env (eval o X.env) = eval o X.env := by rfl) (hline : (apos.endLine == pos.line) = true := by rfl) :
    Ev X W (pu && pv) (.Call (.Attribute o "join" apos) [a] [] pos) (joinM m ma) := by
  obtain ⟨to, o1, o2⟩ := ho.ex
  obtain ⟨ta, a1, a2⟩ := ha.ex
  refine ⟨_, pe_join o1 a1 hs hbase hline, fun σ H Q g T Ex ws a w => ?_⟩
  refine o2 σ H _ g T Ex ws a (w.bd.imp (fun o g1 kk v H1 s1 b1 => ?_) fun _ _ kk => kk)
  obtain ⟨z, rfl, k1⟩ := wpS kk.bd
  obtain rfl := b1.top.isS
  refine ⟨⟨z, rfl⟩, ?_⟩
  refine a2 σ H1 _ g1 _ Ex _ b1.drop (k1.bd.imp (fun ox g2 kk u H2 s2 b2 => ?_) fun x g2 kk H' cls d a2 e => kk H' cls d a2 e)
  obtain ⟨r, hr, k2⟩ := wpOpt kk
  unfold joinB at hr
  split at hr
  · rename_i ys e0
    split at hr
    · rename_i hl
      cases hr
      split at e0
      · rename_i ds e1
        obtain ⟨Hf, sm, hw, cl⟩ := b2.rel.fr
        obtain ⟨_, h1⟩ := hw _ List.mem_cons_self
        obtain ⟨ad, vs, e3, sq, pp⟩ := owLTseq sm h1 e1
        simp only at e3
        subst e3
        obtain rfl := strsOf_ok e0 pp
        refine ⟨z, ad, ys, rfl, rfl, sq, of_decide_eq_true hl, k2 _ H2 (purTr s1 s2) ((b2.data fun _ => .str _).views fun p m => List.mem_cons_of_mem _ (by rw [vsVs]; exact m))⟩
      · cases e0
    · cases hr
  · cases hr
def upM (mo : M O) : M O := M.bd mo fun o => M.bd (asS o) fun s => gdM (decide (s.length ≤ 5592405)) (M.ret (.d (.str (Txt.upper s))))
theorem ev_upper (ho : Ev X W pu o m) (hbase : attributeBase o "upper" X.env (eval o X.env) = eval o X.env := by rfl) (hline : (apos.endLine == pos.line) = true := by rfl) :
    Ev X W pu (.Call (.Attribute o "upper" apos) [] [] pos) (upM m) := by
  obtain ⟨to, o1, o2⟩ := ho.ex
  refine ⟨_, pe_upper o1 hbase hline, fun σ H Q g T Ex ws a w => ?_⟩
  refine o2 σ H _ g T Ex ws a (w.bd.imp (fun o g1 kk v H1 s1 b1 => ?_) fun _ _ kk => kk)
  obtain ⟨z, rfl, k1⟩ := wpS kk.bd
  obtain ⟨k2, k3⟩ := wpGd k1
  obtain rfl := b1.top.isS
  exact ⟨⟨z, rfl⟩, z, rfl, rfl, of_decide_eq_true k2, k3 _ H1 s1 (b1.drop.data fun _ => .str _)⟩

/-! ### an owned list at a name: append, a place stored -/
def appM (i : Nat) (m : M O) : M O := M.bd m fun o g => match g[i]? with
  | some (some (.lst os)) => if os.length < 16777216 then .ok (.d .none) (g.set i (some (.lst (os ++ [o])))) else .bad
  | _ => .bad
def appLM (i : Nat) (m : M O) : M O := fun g => match g[i]? with
  | some (some (.lst _)) => appM i m g
  | _ => .bad
theorem At.appendAt {i : Nat} {os : List O} {o : O} {v y : V} (a : At X H Ex σ g ((y, o) :: T) ws) (hg : g[i]? = some (some (.lst os))) (hv : σ[i]? = some (some v)) : ∃ ad vs, v = .ref ad ∧ H ad = some (.lst vs) ∧ vs.length = os.length ∧
    At X (upd H ad (.lst (vs ++ [y]))) Ex σ (g.set i (some (.lst (os ++ [o])))) T [] := by
  have r := (a.get hg hv).noviews
  obtain ⟨ad, ho, vs, os1, e1, e2, p, hl, r2⟩ := r.opn rfl
  cases p
  refine ⟨ad, vs, e1, e2, hl, ?_⟩
  subst e1
  refine .put a.fit hv (((r2.write (.lst (vs ++ [y]))).perm ?_).shut (.lst (os := os ++ [o])) (by simp [hl]))
  rw [List.zip_append hl]
  simp only [List.zip_cons_cons, List.zip_nil_right, List.append_assoc, List.cons_append, List.nil_append]
  refine List.Perm.append_left _ ?_
  exact List.perm_middle
theorem permErase {α : Type} : ∀ {l : List α} {j : Nat} (h : j < l.length), (l[j] :: l.eraseIdx j).Perm l
  | a :: l, 0, _ => .refl _
  | a :: l, j + 1, h => by
    simp only [List.getElem_cons_succ, List.eraseIdx_cons_succ]
    exact (List.Perm.swap _ _ _).trans (.cons _ (permErase (l := l) (j := j) (by simpa using h)))
theorem permSet {α : Type} (x : α) : ∀ {l : List α} {j : Nat} (h : j < l.length), (l.set j x).Perm (x :: l.eraseIdx j)
  | a :: l, 0, _ => .refl _
  | a :: l, j + 1, h => by
    simp only [List.set_cons_succ, List.eraseIdx_cons_succ]
    exact (List.Perm.cons _ (permSet x (l := l) (j := j) (by simpa using h))).trans (.swap _ _ _)
theorem zipSet : ∀ {vs : List V} {os : List O} {j : Nat} {y : V} {o : O}, (vs.set j y).zip (os.set j o) = (vs.zip os).set j (y, o)
  | [], _, _, _, _ => by simp
  | _ :: _, [], j, _, _ => by cases j <;> simp
  | v :: vs, q :: os, 0, _, _ => by simp
  | v :: vs, q :: os, j + 1, y, o => by simp [zipSet (vs := vs) (os := os) (j := j) (y := y) (o := o)]
theorem At.setIx {i j : Nat} {os : List O} {o : O} {v y : V} (a : At X H Ex σ g ((y, o) :: T) ws) (hg : g[i]? = some (some (.lst os))) (hv : σ[i]? = some (some v)) (hj : j < os.length) : ∃ ad vs, v = .ref ad ∧ H ad = some (.lst vs) ∧ vs.length = os.length ∧
    At X (upd H ad (.lst (vs.set j y))) Ex σ (g.set i (some (.lst (os.set j o)))) T [] := by
  have r := (a.get hg hv).noviews
  obtain ⟨ad, ho, vs, os1, e1, e2, p, hl, r2⟩ := r.opn rfl
  cases p
  refine ⟨ad, vs, e1, e2, hl, ?_⟩
  subst e1
  refine .put a.fit hv (Rel.shut (vs := vs.set j y) (os := os.set j o) ?_ (.lst (os := os.set j o)) (by simp [hl]))
  have hjz : j < (vs.zip os).length := by rw [List.length_zip]; omega
  have p1 : (vs.zip os).Perm ((vs.zip os)[j] :: (vs.zip os).eraseIdx j) := (permErase hjz).symm
  have p2 : ((vs.zip os).set j (y, o)).Perm ((y, o) :: (vs.zip os).eraseIdx j) := permSet _ hjz
  rw [zipSet]
  have r3 := (r2.perm (p1.append_right _)).drop
  refine (r3.write (.lst (vs.set j y))).perm ?_
  refine List.Perm.trans ?_ (p2.symm.append_right _)
  refine ((List.perm_middle.append_left _).trans List.perm_middle)
theorem ev_app (i : Nat) {xn : Str} {ap pp : Pos} (h : Ev X W pu a m) (hN : X.N[i]? = some xn := by rfl) (hv : Vis X.env.scope xn := by first | exact Or.inl rfl | exact Or.inr (Or.inl rfl) | exact Or.inr (Or.inr rfl)) (hdd1 : (xn == ("__debug__" : Str)) = false := by decide) (hcd : (xn == ("__classdict__" : Str)) = false := by decide)
    (hbase : attributeBase (.Name xn pp) "append" X.env (eval (.Name xn pp) X.env) = eval (.Name xn pp) X.env := by rfl)
    (hfew : ((backTo pos (starEach [a] X.env)).all (fun x => !x.1) && (backToKw pos (keywordEach [] X.env)).all (fun x => x.1.isSome)
      && decide ([a].length + ([] : List Keyword).length + (if ([] : List Keyword).isEmpty then 0 else 1) < 30)) = true := by rfl)
    (hline : (ap.endLine == pos.line) = true := by rfl) (hst : starEach [a] X.env = (false, eval a X.env) :: starEach [] X.env := by rfl) (hplain : (backTo pos (starEach [] X.env)).any (·.1) = false := by rfl) :
    Ev X W false (.Call (.Attribute (.Name xn pp) "append" ap) [a] [] pos) (appLM i m) := by
  obtain ⟨t, h1, h2⟩ := h.ex
  refine ⟨_, pe_bm PySem.F.plainAttrs_list PySem.F.slot_list_append PySem.F.type_list_append mt_append (pv i hN hv hdd1 hcd) (pa_cons h1 pa_nil hst) hbase hfew hline hst hplain, fun σ H Q g T Ex ws at0 w => ?_⟩
  unfold appLM at w
  split at w
  · rename_i os0 hg0
    obtain ⟨v, hv⟩ := at0.fit.at_ _ _ hg0
    have r0 := (at0.get hg0 hv).noviews
    obtain ⟨ad0, ho0, vs0, os1, e1, e2, p, hl, r2⟩ := r0.opn rfl
    cases p
    subst e1
    refine ⟨_, hv, .inl ⟨rfl, _, SqL.of e2⟩, ?_⟩
    refine h2 σ H _ g T Ex ws at0 (w.bd.imp (fun o g' kk y H' s a' => ?_) fun _ _ kk => kk)
    split at kk
    · rename_i os hg
      split at kk
      · rename_i hlen
        obtain ⟨ad, vs, e3, e4, hl', a3⟩ := a'.appendAt hg hv
        cases e3
        refine ⟨ad0, vs, y, rfl, rfl, e4, by rw [hl', sizeLine_eq]; exact hlen, ?_⟩
        exact kk _ _ (fun z => by cases z) (a3.data fun _ => .non)
      · exact kk.elim
    · exact kk.elim
  · exact w.elim
/-! x[k] = v -/
def ixSet1 (i : Nat) (mi : M O) (o : O) : M Unit := M.bd mi fun oi => M.bd (asI oi) fun k g => match g[i]? with
  | some (some (.lst os)) => match ixN os.length k with
    | some j => .ok () (g.set i (some (.lst (os.set j o))))
    | none => .bad
  | _ => .bad
def ixSetM (i : Nat) (mi : M O) (o : O) : M Unit := fun g => match g[i]? with
  | some (some _) => ixSet1 i mi o g
  | _ => .bad
theorem ixNlt {n : Nat} {i : Int} {j : Nat} (h : ixN n i = some j) : j < n := (ixN_seq h).2.1
theorem eg_ix (i : Nat) {xn : Str} {pp : Pos} (h : Ev X W pu b m) (hN : X.N[i]? = some xn := by rfl) (hv : Vis X.env.scope xn := by first | exact Or.inl rfl | exact Or.inr (Or.inl rfl) | exact Or.inr (Or.inr rfl)) (hdd1 : (xn == ("__debug__" : Str)) = false := by decide) (hcd : (xn == ("__classdict__" : Str)) = false := by decide)
    (ha : ∀ v, assign (.Subscript (.Name xn pp) b pos) X.env v = (do
      let ov ← holding [v] (eval (.Name xn pp) X.env)
      let iv ← holding [v, ov] (eval b X.env)
      standAt pos
      holding [v, ov, iv] (setItem ov iv v)
      release [v, ov, iv] []) := by intro _; rfl) : EvG X W np (.Subscript (.Name xn pp) b pos) (ixSetM i m) := by
  obtain ⟨t, h1, h2⟩ := h.ex
  refine ⟨_, pg_sub (pv i hN hv hdd1 hcd) h1 set_list ha, fun σ H Q g T Ex v o at0 w => ?_⟩
  unfold ixSetM at w
  split at w
  · rename_i o0 hg0
    obtain ⟨u, hu⟩ := at0.fit.at_ _ _ hg0
    refine ⟨u, hu, ?_⟩
    refine h2 σ H _ g _ Ex [] at0 (w.bd.imp (fun oi g' kk y H' s a' => ?_) fun x g' kk H' cls d a2 e => kk σ H' cls d .refl a2.drop e)
    obtain ⟨ki, rfl, k2⟩ := wpI kk.bd
    obtain rfl := a'.top.isI
    split at k2
    · rename_i os hg
      split at k2
      · rename_i jj hj
        obtain ⟨ad, vs, e3, e4, hl', a3⟩ := a'.drop.setIx hg hu (ixNlt hj)
        subst e3
        exact ⟨ad, vs, ki, jj, rfl, rfl, e4, by rw [hl']; exact hj, k2 σ _ .refl a3⟩
      · exact k2.elim
    · exact k2.elim
  · exact w.elim
end
end Z

namespace Z
open PySem PySem.Spec L2
/-! ### the built-in names -/
theorem boot_len_ : bootBuiltins "len" = some (.builtin "len") := by decide +kernel
theorem boot_all_ : bootBuiltins "all" = some (.builtin "all") := by decide +kernel
theorem boot_any_ : bootBuiltins "any" = some (.builtin "any") := by decide +kernel
theorem boot_max_ : bootBuiltins "max" = some (.builtin "max") := by decide +kernel
theorem boot_min_ : bootBuiltins "min" = some (.builtin "min") := by decide +kernel
theorem boot_sum_ : bootBuiltins "sum" = some (.builtin "sum") := by decide +kernel
theorem boot_sorted_ : bootBuiltins "sorted" = some (.builtin "sorted") := by decide +kernel
theorem boot_isi_ : bootBuiltins "isinstance" = some (.builtin "isinstance") := by decide +kernel
theorem boot_int_ : bootBuiltins "int" = some (.type "int") := by decide +kernel
theorem boot_tuple_ : bootBuiltins "tuple" = some (.type "tuple") := by decide +kernel
theorem boot_list_ : bootBuiltins "list" = some (.type "list") := by decide +kernel
theorem boot_range_ : bootBuiltins "range" = some (.type "range") := by decide +kernel
theorem boot_ty_bool : bootBuiltins "bool" = some (.type "bool") := by decide +kernel
theorem boot_ty_int : bootBuiltins "int" = some (.type "int") := by decide +kernel
theorem boot_ty_str : bootBuiltins "str" = some (.type "str") := by decide +kernel
theorem boot_ty_tuple : bootBuiltins "tuple" = some (.type "tuple") := by decide +kernel
theorem boot_ty_list : bootBuiltins "list" = some (.type "list") := by decide +kernel
theorem cg_nil : ∀ (ds : List PyData) (g : Gs), ds.length ≠ 0 → nilG ds g = .bad
  | [], _, h => (h rfl).elim
  | _ :: _, _, _ => rfl
theorem cg_cons {i n : Nat} {f : List PyData → M Unit} (h : ∀ (ds : List PyData) (g : Gs), ds.length ≠ n → f ds g = .bad) : ∀ (ds : List PyData) (g : Gs), ds.length ≠ n + 1 → consG i f ds g = .bad := by
  intro ds g hn
  cases ds with
  | nil => rfl
  | cons d r =>
    have e : ∀ g, f r g = .bad := fun g => h r g (by simpa using hn)
    simp only [consG, M.bd, setM]
    repeat' split
    all_goals simp_all
/-- a def that is not looked into: of it nothing is said -/
theorem fnBad {P : Program} {w : World} {K : PySem.W.Frag} {mg : Str → Option Value} {base : Heap} {k : Nat} {a : Addr} {fd : FuncData} {ps : List Str} {np : Nat} (hl : ps.length = np) : FnOk P w K mg base (L2.CX P w) k a fd ps (spF K mg np fun _ => .bad) :=
  ⟨fun vs H Q E h => h.1.trans hl.symm, fun A outer s H args us vs Q E _ _ _ _ h => by
    obtain ⟨_, os, Ex, T, _, _, f⟩ := h
    exact f.elim⟩
end Z

namespace Z
open PySem PySem.Spec L2
/-! ### the head -/
/-- a def of the module as it stands behind the top -/
structure DefAt (K : PySem.W.Frag) (mg : Str → Option Value) (x : Str) (st : Stmt) : Prop where
  ex : ∃ (a : Addr) (fd : FuncData), mg x = some (.ref a) ∧ Fun K x x st a fd
theorem defAt {K : PySem.W.Frag} {mg : Str → Option Value} {h : Heap} {x : Str} {st : Stmt} {f : Addr} {oc : Value} {od an : Option Addr} {osl : Array (Option Value)} {kV doc pm cdv ct : Value} (X : K.In h) (G : h.Ns mainGlobals mg)
    (a : PySem.W.nsIn K mainGlobals x = some (some (.ref f))) (l : K.lookup f = some ⟨oc, od, .func (PySem.W.fnOf x x (defArgs st) (defBody st) (defScope st) .none kV doc pm an cdv ct), osl⟩) (c : PySem.W.codeIn K cdv x = true) (k : PySem.W.keepIn K (.ref f) = true) : DefAt K mg x st :=
  ⟨_, _, PySem.W.mg_of X G a, fun_mk l c k⟩
theorem gl_str {K : PySem.W.Frag} {mg : Str → Option Value} {h : Heap} {x s : Str} {t : Tok} (X : K.In h) (G : h.Ns mainGlobals mg) (a : PySem.W.nsIn K mainGlobals x = some (some (.str s t))) (hdb : (x == ("__debug__" : Str)) = false := by decide) :
    ∀ (X : Cx) (W : WX) (pos : Pos), X.K = K → X.mg = mg → Gl X x → Ev X W true (.Name x pos) (dM (.str s)) := by
  intro X W pos e1 e2 hg
  exact ev_glob hg (v := .str s) (by rw [e2]; exact PySem.W.mg_of ‹K.In h› G a) ⟨t, rfl⟩ (fun _ => .str s) hdb
theorem gl_int {K : PySem.W.Frag} {mg : Str → Option Value} {h : Heap} {x : Str} {i : Int} {t : Tok} (X : K.In h) (G : h.Ns mainGlobals mg) (a : PySem.W.nsIn K mainGlobals x = some (some (.int i t))) (hdb : (x == ("__debug__" : Str)) = false := by decide) :
    ∀ (X : Cx) (W : WX) (pos : Pos), X.K = K → X.mg = mg → Gl X x → Ev X W true (.Name x pos) (dM (.int i)) := by
  intro X W pos e1 e2 hg
  exact ev_glob hg (v := .int i) (by rw [e2]; exact PySem.W.mg_of ‹K.In h› G a) ⟨t, rfl⟩ (fun _ => .int i) hdb
def flat1 : Value → Option (V × PyData)
  | .none => some (.non, .none)
  | .bool b => some (.bl b, .bool b)
  | .int i _ => some (.int i, .int i)
  | .str s _ => some (.str s, .str s)
  | _ => none
def flatAll : List Value → Option (List PyData)
  | [] => some []
  | u :: r => match flat1 u, flatAll r with
    | some p, some ds => some (p.2 :: ds)
    | _, _ => none
theorem flat1_ok {K : PySem.W.Frag} {u : Value} {p : V × PyData} (h : flat1 u = some p) : RelV p.1 u ∧ ∀ H, Dp K H p.1 p.2 := by
  cases u <;> simp only [flat1, Option.some.injEq] at h
  all_goals first
    | (cases h; done)
    | (subst h; exact ⟨rfl, fun _ => .non⟩)
    | (subst h; exact ⟨rfl, fun _ => .bl _⟩)
    | (subst h; exact ⟨⟨_, rfl⟩, fun _ => .int _⟩)
    | (subst h; exact ⟨⟨_, rfl⟩, fun _ => .str _⟩)
theorem flatAll_ok {K : PySem.W.Frag} : ∀ {us : List Value} {ds : List PyData}, flatAll us = some ds → ∃ xs, Vals xs us ∧ ∀ H, DpAll K H xs ds
  | [], ds, h => by
    simp only [flatAll, Option.some.injEq] at h
    subst h
    exact ⟨[], .nil, fun _ => .nil⟩
  | u :: r, ds, h => by
    simp only [flatAll] at h
    split at h
    · rename_i p ds' e1 e2
      cases h
      obtain ⟨xs, v, d⟩ := flatAll_ok (K := K) e2
      obtain ⟨r1, d1⟩ := flat1_ok (K := K) e1
      exact ⟨p.1 :: xs, .cons r1 v, fun H => .cons (d1 H) (d H)⟩
    · cases h
theorem ev_globT {X : Cx} {W : WX} {pos : Pos} {x : Str} {a : Addr} {xs : List V} {ds : List PyData} (hg : Gl X x) (hm : X.mg x = some (.ref a)) (hs : ∀ Hf, SqT X.K Hf a xs) (hd : ∀ Hf, DpAll X.K Hf xs ds) (hdb : (x == ("__debug__" : Str)) = false := by decide) : Ev X W true (.Name x pos) (M.ret (.gT ds)) :=
  ⟨_, pe_glob hg hm (v := .ref a) rfl hdb, fun σ H Q g T Ex ws a w => w _ H (fun _ => ⟨rfl, Same.refl _⟩) (by
    refine .ofTop a.fit ?_
    obtain ⟨Hf, as, s, h1, h2, h3, h4, h5⟩ := a.rel.ex
    exact ⟨Hf, as, s, h1, .cons (.gT (hs Hf) (hd Hf)) h2, h3, h4, h5⟩)⟩
theorem gl_tup {K : PySem.W.Frag} {mg : Str → Option Value} {h : Heap} {x : Str} {f : Addr} {od : Option Addr} {its : Array Value} {n : Nat} {osl : Array (Option Value)} {ds : List PyData} (X : K.In h) (G : h.Ns mainGlobals mg)
    (a : PySem.W.nsIn K mainGlobals x = some (some (.ref f))) (l : K.lookup f = some ⟨.type "tuple", od, .seq its n, osl⟩) (hz : its.size ≤ sizeLine) (e : flatAll its.toList = some ds) (hdb : (x == ("__debug__" : Str)) = false := by decide) :
    ∀ (X : Cx) (W : WX) (pos : Pos), X.K = K → X.mg = mg → Gl X x → Ev X W true (.Name x pos) (M.ret (.gT ds)) := by
  intro Y W pos e1 e2 hg
  subst e1
  obtain ⟨xs, v, d⟩ := flatAll_ok (K := Y.K) e
  exact ev_globT hg (by rw [e2]; exact PySem.W.mg_of X G a) (fun Hf => .inr ⟨_, its, n, l, rfl, rfl, hz, v⟩) d hdb
def trueF (f : Fn) (ns : List Int) : Prop := ∃ ps, f [.gL (ns.map PyData.int)] = .ok (.d (.bool true)) ps ∧ ps.length = 1
def spLaw (K : PySem.W.Frag) (f : Fn) : Sp := fun vs H Q E => ∃ (a : Addr) (ns : List Int), vs = [.ref a] ∧ SqL K H a (ns.map V.int) ∧ trueF f ns ∧ ∀ H', Q (.bl true) H'
theorem dpInts {K : PySem.W.Frag} {H : Hp} : ∀ (ns : List Int), DpAll K H (ns.map V.int) (ns.map PyData.int)
  | [] => .nil
  | n :: r => .cons (.int n) (dpInts r)
theorem lawSp {P : Program} {w : World} {K : PySem.W.Frag} {mg : Str → Option Value} {base : Heap} {k : Nat} {a : Addr} {fd : FuncData} {x : Str} {f : Fn} (F : FnOk P w K mg base (L2.CX P w) k a fd [x] (spF K mg 1 f)) :
    FnOk P w K mg base (L2.CX P w) k a fd [x] (spLaw K f) := by
  refine F.imp fun vs H Q E h => ?_
  obtain ⟨b, ns, rfl, hS, ⟨ps, e, hl⟩, hQ⟩ := h
  refine ⟨rfl, [.gL (ns.map PyData.int)], [], [], rfl, ⟨H, [], Same.refl _, by simp, ?_, by simp, by simp, by simp⟩, ?_⟩
  · exact .cons (as := []) (bs := []) (.gL hS (dpInts ns)) .nil
  · rw [e]
    refine ⟨hl, fun v H' r => ?_⟩
    obtain ⟨Hf, s, d, _⟩ := r.headDp
    cases d
    exact hQ H'
theorem zwalk {l : PySem.W.OpenLaw} {q : Program} {loose : List Str} {XP : (Str → Option Value) → Heap → Prop} {YP : World → Heap → Prop} {d : DefRec} {K : Params → PySem.W.Frag} {f : Fn} {x : Str} (k : Nat) (hn : l.most = some 63) (hdf : d.params.defaults = [])
    (hr : Room k callerA) (hp : ∀ ns : List Int, ns.length ≤ 63 → trueF f ns)
    (hY : ∀ (w : World) (h : Heap), YP w h → (K w.params).In h)
    (F : ∀ (w : World) (mg : Str → Option Value) (fa : Addr) (h : Heap), (K w.params).In h → h.Ns mainGlobals mg → mg d.name = some (.ref fa) →
      ∃ fd : FuncData, (∀ (s : Shared) (u : Value), BindsTo s fd ⟨[u], []⟩ [(x, u)]) ∧ ∀ base : Heap, FnOk l.prog w (K w.params) mg base (L2.CX l.prog w) k fa fd [x] (spF (K w.params) mg 1 f)) :
    PySem.W.WalkO q loose XP YP l.row.toRowW d [] (fun f vs => PySem.call f vs) :=
  L2.walk_of (n := 63) (k := k) (x := x) (CX := fun w => L2.CX l.prog w) (sp := fun w => spLaw (K w.params) f) hn (by decide) hdf hr hY
    (fun w mg fa h KX G hmg => by
      obtain ⟨fd, b, g⟩ := F w mg fa h KX G hmg
      exact ⟨fd, b, fun base _ _ => lawSp (g base)⟩)
    (fun _ _ a ns hl _ hS => ⟨a, ns, rfl, hS, hp ns hl, fun _ => rfl⟩)
    fun w H s e s' z => by
      obtain ⟨_, _, _, _, _, _, _, _, _, _, _, _, z⟩ := z
      exact z.elim
end Z

namespace Z
open PySem PySem.Spec L2
/-! ### what a function of the layer comes to, by wishes -/
section
variable {α β : Type} {A : α → Gs → Prop} {C : β → Gs → Prop} {B : Exn → Gs → Prop} {g : Gs}
@[simp] theorem wp_ret {a : α} : Wp (M.ret a g) A B = A a g := rfl
@[simp] theorem wp_no : Wp ((M.no : M α) g) A B = False := rfl
@[simp] theorem wp_ok {a : α} : Wp (.ok a g) A B = A a g := rfl
@[simp] theorem wp_bad : Wp (.bad : Res α) A B = False := rfl
@[simp] theorem wp_bd {m : M α} {f : α → M β} : Wp (M.bd m f g) C B = Wp (m g) (fun a e' => Wp (f a e') C B) B := by
  unfold M.bd Wp
  cases m g <;> rfl
@[simp] theorem wp_ite {c : Prop} [Decidable c] {m n : M α} : Wp ((if c then m else n) g) A B = if c then Wp (m g) A B else Wp (n g) A B := by split <;> rfl
@[simp] theorem wp_gd {c : Bool} {m : M α} : Wp (gdM c m g) A B = (c = true ∧ Wp (m g) A B) := by
  unfold gdM
  split
  · simp_all
  · simp_all [Wp]
end
def optW {α : Type} (x : Option α) (A : α → Prop) : Prop := match x with
  | some o => A o
  | none => False
@[simp] theorem optW_some {α : Type} {o : α} {A : α → Prop} : optW (some o) A = A o := rfl
@[simp] theorem optW_none {α : Type} {A : α → Prop} : optW (none : Option α) A = False := rfl
@[simp] theorem optW_ite {α : Type} {c : Prop} [Decidable c] {x : Option α} {A : α → Prop} : optW (if c then x else none) A = (c ∧ optW x A) := by
  split <;> simp_all
section
variable {A : O → Gs → Prop} {AB : Bool → Gs → Prop} {AF : Fl → Gs → Prop} {AL : List O → Gs → Prop} {AU : Unit → Gs → Prop} {AR : List Arg → Gs → Prop} {AD : List PyData → Gs → Prop} {B : Exn → Gs → Prop} {g : Gs} {m n : M O} {ms : M (List O)} {i : Nat}
@[simp] theorem wp_d {x : PyData} : Wp (dM x g) A B = A (.d x) g := rfl
@[simp] theorem wp_cons : Wp (consM m ms g) AL B = Wp (m g) (fun o g1 => Wp (ms g1) (fun os g2 => AL (o :: os) g2) B) B := by simp [consM]
@[simp] theorem wp_op {f : List O → Option O} : Wp (opM f ms g) A B = Wp (ms g) (fun os g1 => optW (f os) fun o => A o g1) B := by
  simp only [opM, wp_bd, liftM]
  congr 1
  funext os g1
  cases f os <;> rfl
@[simp] theorem wp_opt {x : Option O} : Wp (optM x g) A B = optW x fun o => A o g := by cases x <;> rfl
@[simp] theorem wp_tst : Wp (tstM m g) AB B = Wp (m g) (fun o g1 => match o with | .d (.bool b) => AB b g1 | _ => False) B := by
  simp only [tstM, wp_bd, asB]
  congr 1
  funext o g1
  split
  · rfl
  · first | rfl | (split <;> first | rfl | simp_all)
@[simp] theorem wp_asI {o : O} {AI : Int → Gs → Prop} : Wp (asI o g) AI B = match o with | .d (.int b) => AI b g | _ => False := by
  unfold asI
  split
  · rfl
  · first | rfl | (split <;> first | rfl | simp_all)
@[simp] theorem wp_asS {o : O} {AI : Str → Gs → Prop} : Wp (asS o g) AI B = match o with | .d (.str b) => AI b g | _ => False := by
  unfold asS
  split
  · rfl
  · first | rfl | (split <;> first | rfl | simp_all)
@[simp] theorem wp_asB {o : O} {AI : Bool → Gs → Prop} : Wp (asB o g) AI B = match o with | .d (.bool b) => AI b g | _ => False := by
  unfold asB
  split
  · rfl
  · first | rfl | (split <;> first | rfl | simp_all)
@[simp] theorem wp_rd : Wp (rdM i g) A B = match g[i]? with | some (some (.d x)) => A (.d x) g | _ => False := by
  unfold rdM
  split
  · simp_all
  · first | rfl | (split <;> first | rfl | simp_all)
@[simp] theorem wp_pk : Wp (pkM i g) A B = match g[i]? with | some (some o) => A o g | _ => False := by
  unfold pkM
  split
  · simp_all
  · first | rfl | (split <;> first | rfl | simp_all)
@[simp] theorem wp_mv : Wp (mvM i g) A B = match g[i]? with | some (some o) => A o (g.set i none) | _ => False := by
  unfold mvM
  split
  · simp_all
  · first | rfl | (split <;> first | rfl | simp_all)
def fzW (i : Nat) (g : Gs) (A : O → Gs → Prop) : Option (Option O) → Prop
  | some (some (.d x)) => A (.d x) g
  | some (some o) => match o.fz with
    | some x => A (.d x) (g.set i (some (.d x)))
    | none => False
  | _ => False
@[simp] theorem fzW_d {x : PyData} : fzW i g A (some (some (.d x))) = A (.d x) g := rfl
theorem fzW_lst {xs : List O} : fzW i g A (some (some (.lst xs))) = match (O.lst xs).fz with | some x => A (.d x) (g.set i (some (.d x))) | none => False := rfl
@[simp] theorem wp_fz : Wp (fzM i g) A B = fzW i g A (g[i]?) := by
  unfold fzM
  cases q : g[i]? with
  | none => rfl
  | some x =>
    cases x with
    | none => rfl
    | some o =>
      cases o with
      | d x => rfl
      | _ =>
        simp only [fzW]
        split <;> rename_i e <;> simp [Wp, e]
@[simp] theorem wp_tup : Wp (tupM ms g) A B = Wp (ms g) (fun os g1 => lenOk os.length = true ∧ A (mkTup os) g1) B := by simp [tupM]
@[simp] theorem wp_lst : Wp (lstM ms g) A B = Wp (ms g) (fun os g1 => lenOk os.length = true ∧ A (.lst os) g1) B := by simp [lstM]
@[simp] theorem wp_if {α : Type} {A : α → Gs → Prop} {c : M Bool} {m n : M α} : Wp (ifM c m n g) A B = Wp (c g) (fun b g1 => if b = true then Wp (m g1) A B else Wp (n g1) A B) B := by simp [ifM]
@[simp] theorem wp_bl {c : M Bool} : Wp (blM c g) A B = Wp (c g) (fun b g1 => A (.d (.bool b)) g1) B := by simp [blM]
@[simp] theorem wp_andV : Wp (andV m n g) A B = Wp (tstM m g) (fun b g1 => if b = true then Wp (n g1) A B else A (.d (.bool false)) g1) B := by simp only [andV, wp_bd, wp_ite, wp_ret]
@[simp] theorem wp_orV : Wp (orV m n g) A B = Wp (tstM m g) (fun b g1 => if b = true then A (.d (.bool true)) g1 else Wp (n g1) A B) B := by simp only [orV, wp_bd, wp_ite, wp_ret]
@[simp] theorem wp_notV : Wp (notV m g) A B = Wp (tstM m g) (fun b g1 => A (.d (.bool (!b))) g1) B := by simp only [notV, wp_bd, wp_ret]
@[simp] theorem wp_notZ {c : M Bool} : Wp (notZ c g) AB B = Wp (c g) (fun b g1 => AB (!b) g1) B := by simp only [notZ, wp_bd, wp_ret]
@[simp] theorem wp_andZ {c d : M Bool} : Wp (andZ c d g) AB B = Wp (c g) (fun b g1 => if b = true then Wp (d g1) AB B else AB false g1) B := by simp only [andZ, wp_bd, wp_ite, wp_ret]
@[simp] theorem wp_orZ {c d : M Bool} : Wp (orZ c d g) AB B = Wp (c g) (fun b g1 => if b = true then AB true g1 else Wp (d g1) AB B) B := by simp only [orZ, wp_bd, wp_ite, wp_ret]
@[simp] theorem wp_seq {a b : M Fl} : Wp (seqM a b g) AF B = Wp (a g) (fun fl g1 => match fl with | .next => Wp (b g1) AF B | .ret o => AF (.ret o) g1 | .brk => AF .brk g1 | .cnt => AF .cnt g1) B := by
  simp only [seqM, wp_bd]
  congr 1
  funext fl g1
  cases fl <;> rfl
@[simp] theorem wp_retM : Wp (retM m g) AF B = Wp (m g) (fun o g1 => AF (.ret o) g1) B := by simp [retM]
@[simp] theorem wp_drop : Wp (dropM m g) AF B = Wp (m g) (fun o g1 => AF .next g1) B := by simp [dropM]
@[simp] theorem wp_asg {f : O → M Unit} : Wp (asgM m f g) AF B = Wp (m g) (fun o g1 => Wp (f o g1) (fun _ g2 => AF .next g2) B) B := by simp [asgM]
@[simp] theorem wp_set {o : O} : Wp (setM i o g) AU B = AU () (g.set i (some o)) := rfl
@[simp] theorem wp_items {o : O} : Wp (itemsM o g) AD B = match o with
  | .d (.list ds) => AD ds g
  | .d (.tuple ds) => AD ds g
  | .d (.str z) => AD (signs z) g
  | .gL ds => AD ds g
  | .gT ds => AD ds g
  | .lst os => optW (allD os) fun ds => AD ds g
  | _ => False := by
  unfold itemsM
  repeat' split
  all_goals first | rfl | simp_all
@[simp] theorem wp_rng1 {os : List O} : Wp (rng1M os g) AD B = match os with | [.d (.int i)] => inRng i = true ∧ AD (intsF 0 i.toNat) g | _ => False := by
  unfold rng1M
  repeat' split
  all_goals simp_all [Wp]
@[simp] theorem wp_rng2 {os : List O} : Wp (rng2M os g) AD B = match os with | [.d (.int i), .d (.int j)] => (inRng i = true ∧ inRng j = true) ∧ AD (intsF i (j - i).toNat) g | _ => False := by
  unfold rng2M
  repeat' split
  all_goals simp_all [Wp]
@[simp] theorem wp_vw : Wp (vwM m g) A B = Wp (m g) (fun o g1 => match o with | .d x => A (.d x) g1 | _ => False) B := by
  refine (wp_bd (m := m)).trans (congrArg (fun Z => Wp (m g) Z B) ?_)
  funext o g1
  cases o <;> rfl
@[simp] theorem wp_ch {f f' : List O → Option O} {ma mb mc : M O} : Wp (chM f f' ma mb mc g) A B = Wp (ma g) (fun x g1 => Wp (mb g1) (fun y g2 => optW (f [x, y]) fun z => match z with
    | .d (.bool k) => if k = true then Wp (mc g2) (fun u g3 => optW (f' [y, u]) fun o => A o g3) B else A (.d (.bool false)) g2
    | _ => False) B) B := by
  simp only [chM, wp_bd, wp_op, wp_ret]
  congr 1
  funext x g1
  congr 1
  funext y g2
  cases f [x, y] with
  | none => rfl
  | some o =>
    simp only [wp_asB, optW_some]
    split
    · rename_i b
      cases b <;> simp
    · first | rfl | (split <;> simp_all)
@[simp] theorem wp_valA {ms : M (List Arg)} : Wp (valA m ms g) AR B = Wp (m g) (fun o g1 => Wp (ms g1) (fun as g2 => AR (.val o :: as) g2) B) B := by simp [valA]
@[simp] theorem wp_slIn {ms : M (List Arg)} : Wp (slIn i ms g) AR B = match g[i]? with | some (some _) => Wp (ms g) (fun as g2 => AR (.sl i :: as) g2) B | _ => False := by
  unfold slIn
  split
  · simp_all [slA]
  · first | rfl | (split <;> first | rfl | simp_all)
@[simp] theorem wp_slLh {ma ml mh : M O} : Wp (slLhM ma ml mh g) A B = Wp (ma g) (fun o g1 => Wp (ml g1) (fun oi g2 => match oi with | .d (.int i) => Wp (mh g2) (fun oj g3 => match oj with | .d (.int j) => (optW (slB o (some i) (some j)) fun r => A r g3) | _ => False) B | _ => False) B) B := by
  simp only [slLhM, wp_bd, wp_asI, wp_opt]
/-- a call -/
theorem wp_call {f : Fn} {dfs : List PyData} {ms : M (List Arg)} : Wp (callM f dfs ms g) A B = Wp (ms g) (fun as g1 => optW (takeA as g1) fun p => FW (f (p.1 ++ dfs.map O.d)) (fun r ps => ps.length = (p.1 ++ dfs.map O.d).length ∧ A r (giveA as (ps.take p.1.length) p.2)) (fun x => B x p.2)) B := by
  refine (wp_bd (m := ms)).trans (congrArg (fun Z => Wp (ms g) Z B) ?_)
  funext as g1
  cases takeA as g1 with
  | none => rfl
  | some p =>
    obtain ⟨os, g2⟩ := p
    simp only [optW_some]
    cases f (os ++ dfs.map O.d) with
    | ok r ps =>
      simp only [FW]
      split
      · rename_i h
        simp [Wp, h]
      · rename_i h
        exact propext ⟨fun z => z.elim, fun z => absurd z.1 h⟩
    | ex x => rfl
    | bad => rfl
theorem fw_run {np na nN : Nat} {m : M Fl} {os : List O} {A : O → List O → Prop} {B : Exn → Prop} : FW (runF np na nN m os) A B = ((os.length = na ∧ (os.drop np).all isD = true) ∧ Wp (m (os.map some ++ List.replicate (nN - na) none))
    (fun fl g => match fl with
      | .next => FW (finF np os (.d .none) g) A B
      | .ret o => FW (finF np os o g) A B
      | _ => False) (fun x _ => B x)) := by
  unfold runF
  split
  · rename_i h
    simp only [h, and_self, true_and]
    cases q : m (os.map some ++ List.replicate (nN - na) none) with
    | ok fl g => cases fl <;> rfl
    | ex x g => rfl
    | bad => rfl
  · rename_i h
    exact propext ⟨fun z => z.elim, fun z => absurd z.1 h⟩
end
/-! ### rules for loops -/
theorem Wp.mono {α : Type} {r : Res α} {A A' : α → Gs → Prop} {B B' : Exn → Gs → Prop} (h : Wp r A B) (ha : ∀ a e, A a e → A' a e) (hb : ∀ x e, B x e → B' x e) : Wp r A' B' := h.imp ha hb
theorem FW.mono {r : FRes} {A A' : O → List O → Prop} {B B' : Exn → Prop} (h : FW r A B) (ha : ∀ a e, A a e → A' a e) (hb : ∀ x, B x → B' x) : FW r A' B' := by
  cases r with
  | ok o ps => exact ha _ _ h
  | ex x => exact hb _ h
  | bad => exact h
theorem wp_for {set : O → M Unit} {body : M Fl} {A : Fl → Gs → Prop} {B : Exn → Gs → Prop} (I : List PyData → Gs → Prop)
    (hs : ∀ d r g, I (d :: r) g → Wp (set (.d d) g) (fun _ g1 => Wp (body g1) (fun fl g2 => match fl with | .next => I r g2 | .cnt => I r g2 | .brk => A .next g2 | .ret o => A (.ret o) g2) B) B)
    (he : ∀ g, I [] g → A .next g) : ∀ (ds : List PyData) (g : Gs), I ds g → Wp (forM set body ds g) A B
  | [], g, h => he g h
  | d :: r, g, h => by
    simp only [forM, wp_bd]
    refine (hs d r g h).mono (fun _ g1 q => q.mono (fun fl g2 z => ?_) fun _ _ z => z) fun _ _ z => z
    cases fl with
    | next => exact wp_for I hs he r g2 z
    | cnt => exact wp_for I hs he r g2 z
    | brk => exact z
    | ret o => exact z
theorem wp_while {c : M Bool} {body : M Fl} {A : Fl → Gs → Prop} {B : Exn → Gs → Prop} (I : Nat → Gs → Prop)
    (hs : ∀ k g, I k g → Wp (c g) (fun b g1 => if b = true then Wp (body g1) (fun fl g2 => match fl with | .next => ∃ j, j < k ∧ I j g2 | .cnt => ∃ j, j < k ∧ I j g2 | .brk => A .next g2 | .ret o => A (.ret o) g2) B else A .next g1) B) :
    ∀ (n k : Nat) (g : Gs), k < n → I k g → Wp (whM c body n g) A B
  | 0, k, g, h, _ => by omega
  | n + 1, k, g, hk, h => by
    simp only [whM, wp_bd]
    refine (hs k g h).mono (fun b g1 q => ?_) fun _ _ z => z
    cases b with
    | false => simpa using q
    | true =>
      simp only [if_true] at q
      simp only [if_true, wp_bd]
      refine q.mono (fun fl g2 z => ?_) fun _ _ z => z
      cases fl with
      | next =>
        obtain ⟨j, hj, z⟩ := z
        exact wp_while I hs n j g2 (by omega) z
      | cnt =>
        obtain ⟨j, hj, z⟩ := z
        exact wp_while I hs n j g2 (by omega) z
      | brk => exact z
      | ret o => exact z
theorem wp_lc {vs : List Nat} {set : O → M Unit} {tst : M Bool} {elt : M O} {A : List O → Gs → Prop} (I : List PyData → List O → Gs → Prop)
    (hs : ∀ d r acc g, I (d :: r) acc g → Wp (set (.d d) g) (fun _ g1 => Wp (tst g1) (fun b g2 => if b = true then Wp (elt g2) (fun o g3 => I r (acc ++ [o]) (wipeG g3 vs)) (fun _ _ => False) else I r acc (wipeG g2 vs)) (fun _ _ => False)) fun _ _ => False)
    (he : ∀ acc g, I [] acc g → A acc g) : ∀ (ds : List PyData) (acc : List O) (g : Gs), I ds acc g → Wp (lcM vs set tst elt ds acc g) A fun _ _ => False
  | [], acc, g, h => he acc g h
  | d :: r, acc, g, h => by
    simp only [lcM, wp_bd]
    refine (hs d r acc g h).mono (fun _ g1 q => q.mono (fun b g2 z => ?_) fun _ _ z => z) fun _ _ z => z
    cases b with
    | false =>
      simp only [Bool.false_eq_true, if_false] at z
      exact wp_lc I hs he r acc _ z
    | true =>
      simp only [if_true] at z
      refine (wp_bd (m := elt)).mpr ?_
      exact z.mono (fun o g3 z => wp_lc I hs he r _ _ z) fun _ _ z => z
theorem wp_comp {vs : List Nat} {mi : M (List PyData)} {set : O → M Unit} {tst : M Bool} {elt : M O} {g : Gs} {A : O → Gs → Prop} {B : Exn → Gs → Prop} :
    Wp (compM vs mi set tst elt g) A B = Wp (mi g) (fun ds g1 => lenOk ds.length = true ∧ Wp (lcM vs set tst elt ds [] (wipeG g1 vs)) (fun os g3 => A (.lst os) (restG g1 vs g3)) fun _ _ => False) B := by
  refine (wp_bd (m := mi)).trans (congrArg (fun Z => Wp (mi g) Z B) ?_)
  funext ds g1
  split
  · rename_i h
    simp only [h, true_and]
    cases lcM vs set tst elt ds [] (wipeG g1 vs) <;> rfl
  · rename_i h
    simp [Wp, h]
/-- a comprehension whose turns change nothing -/
theorem wp_lcP {vs : List Nat} {set : O → M Unit} {tst : M Bool} {elt : M O} (f : PyData → O) {A : List O → Gs → Prop} {g0 : Gs} : ∀ (ds : List PyData) (acc : List O),
    (∀ d ∈ ds, Wp (set (.d d) g0) (fun _ g1 => Wp (tst g1) (fun b g2 => b = true ∧ Wp (elt g2) (fun o g3 => o = f d ∧ wipeG g3 vs = g0) (fun _ _ => False)) fun _ _ => False) fun _ _ => False) →
    A (acc ++ ds.map f) g0 → Wp (lcM vs set tst elt ds acc g0) A fun _ _ => False
  | [], acc, h, k => by
    simp only [lcM, wp_ret]
    simpa using k
  | d :: r, acc, h, k => by
    simp only [lcM, wp_bd]
    refine (h d (by simp)).mono (fun _ g1 q => q.mono (fun b g2 z => ?_) fun _ _ z => z) fun _ _ z => z
    obtain ⟨e, z⟩ := z
    subst e
    refine (wp_bd (m := elt)).mpr ?_
    refine z.mono (fun o g3 z => ?_) fun _ _ z => z
    obtain ⟨e1, e2⟩ := z
    rw [e1, e2]
    exact wp_lcP f r _ (fun d' m => h d' (by simp [m])) (by simpa using k)
end Z

namespace Z
open PySem PySem.Spec L2
/-! ### operations by values -/
@[simp] theorem addF_i {i j : Int} : addF [.d (.int i), .d (.int j)] = some (.d (.int (i + j))) := rfl
@[simp] theorem addF_s {i j : Str} : addF [.d (.str i), .d (.str j)] = if lenOk (i.length + j.length) = true then some (.d (.str (i ++ j))) else none := rfl
@[simp] theorem subF_i {i j : Int} : subF [.d (.int i), .d (.int j)] = some (.d (.int (i - j))) := rfl
@[simp] theorem mulF_i {i j : Int} : mulF [.d (.int i), .d (.int j)] = if mulC i j = true then some (.d (.int (i * j))) else none := rfl
@[simp] theorem divF_i {i j : Int} : divF [.d (.int i), .d (.int j)] = if (decide (0 < j) && decide (j < 1073741824)) = true then some (.d (.int (i / j))) else none := rfl
@[simp] theorem modF_i {i j : Int} : modF [.d (.int i), .d (.int j)] = if decide (0 < j) = true then some (.d (.int (i % j))) else none := rfl
@[simp] theorem powF_i {i j : Int} : powF [.d (.int i), .d (.int j)] = if powC i j = true then some (.d (.int (i ^ j.toNat))) else none := rfl
@[simp] theorem ltF_i {i j : Int} : ltF [.d (.int i), .d (.int j)] = some (.d (.bool (decide (i < j)))) := rfl
@[simp] theorem leF_i {i j : Int} : leF [.d (.int i), .d (.int j)] = some (.d (.bool (decide (i ≤ j)))) := rfl
@[simp] theorem gtF_i {i j : Int} : gtF [.d (.int i), .d (.int j)] = some (.d (.bool (decide (j < i)))) := rfl
@[simp] theorem geF_i {i j : Int} : geF [.d (.int i), .d (.int j)] = some (.d (.bool (decide (j ≤ i)))) := rfl
@[simp] theorem max2F_i {i j : Int} : max2F [.d (.int i), .d (.int j)] = some (.d (.int (if j > i then j else i))) := rfl
@[simp] theorem min2F_i {i j : Int} : min2F [.d (.int i), .d (.int j)] = some (.d (.int (if j < i then j else i))) := rfl
@[simp] theorem negF_i {i : Int} : negF [.d (.int i)] = some (.d (.int (-i))) := rfl
@[simp] theorem mulC_r {i j : Int} (h : -18446744073709551616 < j := by omega) (h' : j < 18446744073709551616 := by omega) : mulC i j = true := by simp [mulC, h, h']
@[simp] theorem mulC_l {i j : Int} (h : -18446744073709551616 < i := by omega) (h' : i < 18446744073709551616 := by omega) : mulC i j = true := by simp [mulC, h, h']
@[simp] theorem lenF_gL {ds : List PyData} : lenF [.gL ds] = some (.d (.int ds.length)) := rfl
@[simp] theorem lenF_gT {ds : List PyData} : lenF [.gT ds] = some (.d (.int ds.length)) := rfl
@[simp] theorem lenF_lst {ds : List O} : lenF [.lst ds] = some (.d (.int ds.length)) := rfl
@[simp] theorem lenF_l {ds : List PyData} : lenF [.d (.list ds)] = some (.d (.int ds.length)) := rfl
@[simp] theorem lenF_t {ds : List PyData} : lenF [.d (.tuple ds)] = some (.d (.int ds.length)) := rfl
@[simp] theorem lenF_s {z : Str} : lenF [.d (.str z)] = if lenOk z.length = true then some (.d (.int z.length)) else none := by
  simp only [lenF, lenB]
  split
  · rename_i n e
    split at e
    · rename_i h; cases e; simp [h]
    · cases e
  · rename_i e
    split at e
    · cases e
    · rename_i h; simp [h]
theorem lenOk_of {n : Nat} (h : n ≤ 16777216) : lenOk n = true := decide_eq_true h
theorem atI_nat {α : Type} {xs : List α} {i : Int} (h0 : 0 ≤ i) (h1 : i < xs.length) : ∃ h : i.toNat < xs.length, atI xs i = some xs[i.toNat] := by
  have h : i.toNat < xs.length := by omega
  refine ⟨h, ?_⟩
  unfold atI ixN
  rw [if_pos h0, if_pos h1]
  simp [h]
theorem ixF_gL {ds : List PyData} {i : Int} : ixF [.gL ds, .d (.int i)] = match atI ds i with | some x => some (.d x) | none => none := rfl
theorem ixF_s {z : Str} {i : Int} : ixF [.d (.str z), .d (.int i)] = if lenOk z.length = true then (match atI z.cps.toList i with | some c => some (.d (.str ⟨#[c]⟩)) | none => none) else none := rfl
theorem atI_none {α : Type} {xs : List α} {i : Int} (h : atI xs i = none) : ¬ (0 ≤ i ∧ i < xs.length) := fun z => by
  obtain ⟨_, e⟩ := atI_nat z.1 z.2
  rw [e] at h
  cases h
theorem optW_at {α : Type} {xs : List α} {i : Int} {A : α → Prop} (h0 : 0 ≤ i) (h1 : i < xs.length) (k : ∀ x, x ∈ xs → A x) : optW (atI xs i) A := by
  obtain ⟨h, e⟩ := atI_nat h0 h1
  rw [e]
  exact k _ (List.getElem_mem h)
/-- one of a list that is looked at -/
theorem optW_ix {o : O} {ds : List PyData} {i : Int} {A : O → Prop} (e : asLT o = some ds) (h0 : 0 ≤ i) (h1 : i < ds.length) (k : ∀ x, x ∈ ds → A (.d x)) : optW (ixF [o, .d (.int i)]) A := by
  obtain ⟨h, q⟩ := atI_nat h0 h1
  have : ixF [o, .d (.int i)] = some (.d ds[i.toNat]) := by
    unfold ixF
    split
    · rename_i z j heq
      cases heq
      cases e
    · rename_i a j _ heq
      cases heq
      simp only [e, q]
    · rename_i h2
      exact (h2 _ _ rfl).elim
  rw [this]
  exact k _ (List.getElem_mem h)
theorem optW_ixS {z : Str} {i : Int} {A : O → Prop} (hz : z.length ≤ 16777216) (h0 : 0 ≤ i) (h1 : i < z.length) (k : ∀ c, c ∈ z.cps.toList → A (.d (.str ⟨#[c]⟩))) : optW (ixF [.d (.str z), .d (.int i)]) A := by
  rw [ixF_s]
  simp only [lenOk_of hz, if_true]
  obtain ⟨h, q⟩ := atI_nat (xs := z.cps.toList) h0 (by simpa [Str.length] using h1)
  rw [q]
  exact k _ (List.getElem_mem h)
theorem asLT_d {os : List O} {ds : List PyData} (h : allD os = some ds) : asLT (.lst os) = some ds := by simp [asLT, asL, h]
@[simp] theorem asLT_gL {ds : List PyData} : asLT (.gL ds) = some ds := rfl
@[simp] theorem asLT_gT {ds : List PyData} : asLT (.gT ds) = some ds := rfl
/-! ### texts -/
@[simp] theorem len_app (a b : Str) : (a ++ b).length = a.length + b.length := PySem.Str.length_append a b
theorem len_cut (z : Str) (lo hi : Option Int) : (cutS z lo hi).length ≤ z.length := by
  simp [cutS, Str.length]
  omega
theorem len_cutHi (z : Str) (n : Nat) : (cutS z none (some (n : Int))).length ≤ n := by
  have h : HT.sIx z.length z.length (some (n : Int)) ≤ n := by rw [HT.sIx_nat]; omega
  have h2 : ∀ (l : List Nat) (k : Nat), ((l.take k).toArray).size ≤ k := fun l k => by simp; omega
  refine Nat.le_trans (h2 _ _) ?_
  show _ - HT.sIx z.length 0 none ≤ n
  rw [HT.sIx_none]
  omega
@[simp] theorem slHi_s {z : Str} {i : Int} : slF false true [.d (.str z), .d (.int i)] = if lenOk z.length = true then some (.d (.str (cutS z none (some i)))) else none := rfl
@[simp] theorem slLo_s {z : Str} {i : Int} : slF true false [.d (.str z), .d (.int i)] = if lenOk z.length = true then some (.d (.str (cutS z (some i) none))) else none := rfl
@[simp] theorem slB_s {z : Str} {l h : Option Int} : slB (.d (.str z)) l h = if lenOk z.length = true then some (.d (.str (cutS z l h))) else none := rfl
@[simp] theorem eqF_s {y z : Str} : eqF [.d (.str y), .d (.str z)] = some (.d (.bool (y == z))) := rfl
@[simp] theorem neF_s {y z : Str} : neF [.d (.str y), .d (.str z)] = some (.d (.bool (!(y == z)))) := rfl
@[simp] theorem eqF_i {y z : Int} : eqF [.d (.int y), .d (.int z)] = some (.d (.bool (y == z))) := by
  simp [eqF, eqB, O.fz, SeqAt.shaped, PyData.eqv, PyData.canLay0, PyData.depth]
@[simp] theorem neF_i {y z : Int} : neF [.d (.int y), .d (.int z)] = some (.d (.bool (!(y == z)))) := by
  simp [neF, eqB, O.fz, SeqAt.shaped, PyData.eqv, PyData.canLay0, PyData.depth]
@[simp] theorem eqF_b {y z : Bool} : eqF [.d (.bool y), .d (.bool z)] = some (.d (.bool (y == z))) := by
  simp [eqF, eqB, O.fz, SeqAt.shaped, PyData.eqv, PyData.canLay0, PyData.depth]
section
variable {A : O → Gs → Prop} {AU : Unit → Gs → Prop} {B : Exn → Gs → Prop} {g : Gs} {m n : M O} {i : Nat}
@[simp] theorem wp_up : Wp (upM m g) A B = Wp (m g) (fun o g1 => match o with | .d (.str s) => decide (s.length ≤ 5592405) = true ∧ A (.d (.str (Txt.upper s))) g1 | _ => False) B := by
  simp only [upM, wp_bd, wp_asS, wp_gd, wp_ret]
  try rfl
@[simp] theorem wp_join : Wp (joinM m n g) A B = Wp (m g) (fun o g1 => match o with | .d (.str s) => Wp (n g1) (fun x g2 => optW (joinB s x) fun r => A r g2) B | _ => False) B := by
  simp only [joinM, wp_bd, wp_asS, wp_opt]
  try rfl
@[simp] theorem wp_ixSet {o : O} : Wp (ixSetM i m o g) AU B = match g[i]? with
    | some (some _) => Wp (m g) (fun oi g1 => match oi with
      | .d (.int k) => (match g1[i]? with
        | some (some (.lst os)) => optW (ixN os.length k) fun j => AU () (g1.set i (some (.lst (os.set j o))))
        | _ => False)
      | _ => False) B
    | _ => False := by
  unfold ixSetM
  cases q : g[i]? with
  | none => rfl
  | some x =>
    cases x with
    | none => rfl
    | some v =>
      simp only
      refine (wp_bd (m := m)).trans (congrArg (fun Z => Wp (m g) Z B) ?_)
      funext oi g1
      refine (wp_bd (m := asI oi)).trans ?_
      rw [wp_asI]
      split
      · cases g1[i]? with
        | none => rfl
        | some y =>
          cases y with
          | none => rfl
          | some y =>
            cases y with
            | lst os =>
              simp only
              cases ixN os.length _ <;> rfl
            | _ => rfl
      · first | rfl | (split <;> first | rfl | simp_all)
@[simp] theorem wp_app : Wp (appLM i m g) A B = match g[i]? with
    | some (some (.lst _)) => Wp (m g) (fun o g1 => match g1[i]? with
        | some (some (.lst os)) => os.length < 16777216 ∧ A (.d .none) (g1.set i (some (.lst (os ++ [o]))))
        | _ => False) B
    | _ => False := by
  unfold appLM
  cases q : g[i]? with
  | none => rfl
  | some x =>
    cases x with
    | none => rfl
    | some v =>
      cases v with
      | lst xs =>
        simp only [appM]
        refine (wp_bd (m := m)).trans (congrArg (fun Z => Wp (m g) Z B) ?_)
        funext o g1
        cases g1[i]? with
        | none => rfl
        | some y =>
          cases y with
          | none => rfl
          | some y =>
            cases y with
            | lst os =>
              simp only
              split
              · rename_i h; simp [Wp, h]
              · rename_i h; simp [Wp, h]
            | _ => rfl
      | _ => rfl
@[simp] theorem wp_isi {n : String} : Wp (isiM n m g) A B = Wp (m g) (fun o g1 => tyN o ≠ "" ∧ optW (kitB (tyN o) n) fun k => A (.d (.bool k)) g1) B := by
  unfold isiM
  refine (wp_bd (m := m)).trans (congrArg (fun Z => Wp (m g) Z B) ?_)
  funext o g1
  split
  · simp_all [Wp]
  · rename_i h
    simp only [h, not_false_eq_true, true_and, ne_eq]
    cases kitB (tyN o) n <;> rfl
end
theorem join_one {l : List Str} {s : Str} (h : ∀ a ∈ l, a.length = 1) (hl : l.length ≤ 1000) (he : s = "") : ∃ z : Str, joinB s (.lst (l.map fun x => .d (.str x))) = some (.d (.str z)) ∧ z.length = l.length := by
  subst he
  have e1 : allD (l.map fun x => O.d (.str x)) = some (l.map PyData.str) := by
    have := allD_map (l.map PyData.str)
    rwa [List.map_map] at this
  have e2 : ∀ l : List Str, strsOf (l.map PyData.str) = some l := by
    intro l
    induction l with
    | nil => rfl
    | cons a r ih => simp [strsOf, ih]
  have e3 : ∀ l : List Str, (∀ a ∈ l, a.length = 1) → (l.map (·.length)).sum = l.length := by
    intro l h
    induction l with
    | nil => rfl
    | cons a r ih => simp [h a (by simp), ih (fun b m => h b (by simp [m])), Nat.add_comm]
  refine ⟨_, ?_, (PySem.W.KT.join_ones) l h⟩
  unfold joinB
  have z : (Str.ofString "").length = 0 := by decide
  simp only [asLT_d e1, e2, e3 l h]
  rw [z, if_pos (lenOk_of (by omega))]
/-! ### the random numbers of a law -/
@[simp] theorem fw_ok {r : O} {ps : List O} {A : O → List O → Prop} {B : Exn → Prop} : FW (.ok r ps) A B = A r ps := rfl
@[simp] theorem fw_bad {A : O → List O → Prop} {B : Exn → Prop} : FW .bad A B = False := rfl
def Bx (o : O) : Prop := ∃ c s : Int, o = .lst [.d (.int c), .d (.int s)]
def g_take : M Fl := (seqM (ifM (tstM (opM gtF (consM (opM ixF (consM (pkM 0) (consM (dM (.int 0)) (M.ret [])))) (consM (dM (.int 0)) (M.ret []))))) (seqM (asgM (opM modF (consM (opM ixF (consM (pkM 0) (consM (dM (.int 0)) (M.ret [])))) (consM (pkM 1) (M.ret [])))) (setM 2))
  (seqM (asgM (opM divF (consM (opM ixF (consM (pkM 0) (consM (dM (.int 0)) (M.ret [])))) (consM (pkM 1) (M.ret [])))) (ixSetM 0 (dM (.int 0))))
  (retM (mvM 2)))) (M.ret .next))
  (seqM (asgM (opM modF (consM (opM mulF (consM (opM ixF (consM (pkM 0) (consM (dM (.int 1)) (M.ret [])))) (consM (dM (.int 69623)) (M.ret [])))) (consM (dM (.int 2147483647)) (M.ret [])))) (setM 3))
  (seqM (asgM (opM addF (consM (opM modF (consM (opM addF (consM (opM mulF (consM (pkM 3) (consM (dM (.int 48271)) (M.ret [])))) (consM (dM (.int 30103)) (M.ret [])))) (consM (dM (.int 2147483629)) (M.ret [])))) (consM (dM (.int 1)) (M.ret [])))) (ixSetM 0 (dM (.int 1))))
  (retM (opM modF (consM (opM divF (consM (opM addF (consM (opM mulF (consM (pkM 3) (consM (dM (.int 2147483647)) (M.ret [])))) (consM (opM ixF (consM (pkM 0) (consM (dM (.int 1)) (M.ret [])))) (M.ret [])))) (consM (dM (.int 8191)) (M.ret [])))) (consM (pkM 1) (M.ret []))))))))
def f_take : Fn := runF 2 2 4 g_take
theorem ix2a {c s : Int} : ixF [.lst [.d (.int c), .d (.int s)], .d (.int 0)] = some (.d (.int c)) := by rfl
theorem ix2b {c s : Int} : ixF [.lst [.d (.int c), .d (.int s)], .d (.int 1)] = some (.d (.int s)) := by rfl
theorem fw_take {bx : O} {n : Int} (h : Bx bx) (h0 : 0 < n) (h1 : n < 1073741824) {A : O → List O → Prop} {B : Exn → Prop} (k : ∀ (r : Int) (bx' : O), Bx bx' → 0 ≤ r → r < n → A (.d (.int r)) [bx', .d (.int n)]) :
    FW (f_take [bx, .d (.int n)]) A B := by
  obtain ⟨c, s, rfl⟩ := h
  simp [f_take, fw_run, g_take, ix2a, ix2b, isD, h0, h1, ixN, finF, optAll]
  split
  · exact k _ _ ⟨_, _, rfl⟩ (Int.emod_nonneg _ (by omega)) (Int.emod_lt_of_pos _ h0)
  · exact k _ _ ⟨_, _, rfl⟩ (Int.emod_nonneg _ (by omega)) (Int.emod_lt_of_pos _ h0)
end Z

namespace Z
open PySem PySem.Spec L2
/-! ### rules to go backwards by -/
/-- a comprehension whose turns change nothing, over a list that is written -/
theorem wp_lcQ {vs : List Nat} {set : O → M Unit} {tst : M Bool} {elt : M O} {ι : Type} (e : ι → PyData) (f : ι → O) {A : List O → Gs → Prop} {g0 : Gs} : ∀ (l : List ι) (acc : List O),
    (∀ d ∈ l, Wp (set (.d (e d)) g0) (fun _ g1 => Wp (tst g1) (fun b g2 => b = true ∧ Wp (elt g2) (fun o g3 => o = f d ∧ wipeG g3 vs = g0) (fun _ _ => False)) fun _ _ => False) fun _ _ => False) →
    A (acc ++ l.map f) g0 → Wp (lcM vs set tst elt (l.map e) acc g0) A fun _ _ => False
  | [], acc, h, k => by
    simp only [List.map_nil, lcM, wp_ret]
    simpa using k
  | d :: r, acc, h, k => by
    simp only [List.map_cons, lcM, wp_bd]
    refine (h d (by simp)).mono (fun _ g1 q => q.mono (fun b g2 z => ?_) fun _ _ z => z) fun _ _ z => z
    obtain ⟨e1, z⟩ := z
    subst e1
    refine (wp_bd (m := elt)).mpr ?_
    refine z.mono (fun o g3 z => ?_) fun _ _ z => z
    obtain ⟨e1, e2⟩ := z
    rw [e1, e2]
    exact wp_lcQ e f r _ (fun d' m => h d' (by simp [m])) (by simpa using k)
section
variable {α : Type} {A : O → Gs → Prop} {AO : O → Prop} {AB : Bool → Gs → Prop} {AF : Fl → Gs → Prop} {AL : List O → Gs → Prop} {AU : Unit → Gs → Prop} {AR : List Arg → Gs → Prop} {AD : List PyData → Gs → Prop} {B : Exn → Gs → Prop} {g g' : Gs} {m n : M O} {ms : M (List O)} {i k : Nat} {o : O}
theorem z_rd {x : PyData} (h : g[i]? = some (some (.d x))) (k : A (.d x) g) : Wp (rdM i g) A B := by rw [wp_rd, h]; exact k
theorem z_pk (h : g[i]? = some (some o)) (k : A o g) : Wp (pkM i g) A B := by rw [wp_pk, h]; exact k
theorem z_mv (h : g[i]? = some (some o)) (e : g.set i none = g') (k : A o g') : Wp (mvM i g) A B := by subst e; rw [wp_mv, h]; exact k
theorem z_fz {x : PyData} (h : g[i]? = some (some (.d x))) (k : A (.d x) g) : Wp (fzM i g) A B := by rw [wp_fz, h]; exact k
theorem z_fzL {x : PyData} {xs : List O} (h : g[i]? = some (some (.lst xs))) (f : (O.lst xs).fz = some x) (e : g.set i (some (.d x)) = g') (k : A (.d x) g') : Wp (fzM i g) A B := by subst e; rw [wp_fz, h, fzW_lst, f]; exact k
theorem z_fzT {x : PyData} {xs : List O} (h : g[i]? = some (some (.tup xs))) (f : (O.tup xs).fz = some x) (e : g.set i (some (.d x)) = g') (k : A (.d x) g') : Wp (fzM i g) A B := by
  subst e; rw [wp_fz, h]
  show match (O.tup xs).fz with | some x => A (.d x) (g.set i (some (.d x))) | none => False
  rw [f]; exact k
theorem z_set (e : g.set i (some o) = g') (k : AU () g') : Wp (setM i o g) AU B := by subst e; exact k
theorem z_sl {ms : M (List Arg)} (h : g[i]? = some (some o)) (k : Wp (ms g) (fun as g2 => AR (.sl i :: as) g2) B) : Wp (slIn i ms g) AR B := by rw [wp_slIn, h]; exact k
theorem z_tup {os : List O} (h : os.length ≤ 16777216) (k : A (mkTup os) g) : lenOk os.length = true ∧ A (mkTup os) g := ⟨lenOk_of h, k⟩
theorem z_tst {b : Bool} (k : AB b g) : (match O.d (.bool b) with | .d (.bool b) => AB b g | _ => False) := k
theorem z_ite {c : Prop} [Decidable c] {P Q : Prop} (h1 : c → P) (h2 : ¬ c → Q) : if c then P else Q := by
  split
  · exact h1 (by assumption)
  · exact h2 (by assumption)
theorem z_ifT {c : Prop} [Decidable c] {P Q : Prop} (h : c) (k : P) : if c then P else Q := by rwa [if_pos h]
theorem z_ifF {c : Prop} [Decidable c] {P Q : Prop} (h : ¬ c) (k : Q) : if c then P else Q := by rwa [if_neg h]
theorem z_and {a b : Prop} (h : a) (k : b) : a ∧ b := ⟨h, k⟩
theorem z_itL {ds : List PyData} (k : AD ds g) : Wp (itemsM (.d (.list ds)) g) AD B := k
theorem z_itT {ds : List PyData} (k : AD ds g) : Wp (itemsM (.d (.tuple ds)) g) AD B := k
theorem z_itS {z : Str} (k : AD (signs z) g) : Wp (itemsM (.d (.str z)) g) AD B := k
theorem z_itgL {ds : List PyData} (k : AD ds g) : Wp (itemsM (.gL ds) g) AD B := k
theorem z_itgT {ds : List PyData} (k : AD ds g) : Wp (itemsM (.gT ds) g) AD B := k
theorem z_itO {os : List O} {ds : List PyData} (h : allD os = some ds) (k : AD ds g) : Wp (itemsM (.lst os) g) AD B := by rw [wp_items]; simp only [h]; exact k
theorem z_rng1 {i : Int} (h0 : -4611686018427387904 ≤ i := by omega) (h1 : i < 4611686018427387904 := by omega) (k : AD (intsF 0 i.toNat) g) : Wp (rng1M [.d (.int i)] g) AD B := by
  rw [wp_rng1]
  exact ⟨by simp [inRng, h0, h1], k⟩
theorem z_rng2 {i j : Int} (h0 : -4611686018427387904 ≤ i := by omega) (h1 : i < 4611686018427387904 := by omega) (h2 : -4611686018427387904 ≤ j := by omega) (h3 : j < 4611686018427387904 := by omega) (k : AD (intsF i (j - i).toNat) g) : Wp (rng2M [.d (.int i), .d (.int j)] g) AD B := by
  rw [wp_rng2]
  exact ⟨⟨by simp [inRng, h0, h1], by simp [inRng, h2, h3]⟩, k⟩
def Bw (A : O → Gs → Prop) (as : List Arg) (n k : Nat) (g : Gs) (r : O) (ps : List O) : Prop := ps.length = k ∧ A r (giveA as (ps.take n) g)
def Cw (f : Fn) (dfs : List PyData) (A : O → Gs → Prop) (B : Exn → Gs → Prop) (as : List Arg) (g : Gs) : Prop := optW (takeA as g) fun p => FW (f (p.1 ++ dfs.map O.d)) (fun r ps => Bw A as p.1.length (p.1 ++ dfs.map O.d).length p.2 r ps) (fun x => B x p.2)
theorem z_call {f : Fn} {dfs : List PyData} {ms : M (List Arg)} (k : Wp (ms g) (fun as g1 => Cw f dfs A B as g1) B) : Wp (callM f dfs ms g) A B := by
  rw [wp_call]
  exact k
theorem z_cw {f : Fn} {dfs : List PyData} {as : List Arg} {os os' : List O} (ht : takeA as g = some (os, g')) (ho : os ++ dfs.map O.d = os') (k : FW (f os') (fun r ps => Bw A as os.length os'.length g' r ps) (fun x => B x g')) : Cw f dfs A B as g := by
  subst ho
  unfold Cw
  rw [ht]
  exact k
theorem z_back {r : O} {as : List Arg} {ps : List O} {n k : Nat} (h : ps.length = k) (e : giveA as (ps.take n) g = g') (q : A r g') : Bw A as n k g r ps := by subst e; exact ⟨h, q⟩
theorem z_fin {np : Nat} {os ps : List O} {A : O → List O → Prop} {B : Exn → Prop} (h : optAll (g.take np) = some ps) (k : A o (ps ++ os.drop np)) : FW (finF np os o g) A B := by
  unfold finF
  rw [h]
  exact k
theorem z_run {np na nN : Nat} {m : M Fl} {os : List O} {gs : Gs} {A : O → List O → Prop} {B : Exn → Prop} (h : os.length = na) (h2 : (os.drop np).all isD = true) (e : os.map some ++ List.replicate (nN - na) none = gs) (k : Wp (m gs)
    (fun fl g => match fl with
      | .next => FW (finF np os (.d .none) g) A B
      | .ret o => FW (finF np os o g) A B
      | _ => False) (fun x _ => B x)) : FW (runF np na nN m os) A B := by
  subst e
  rw [fw_run]
  exact ⟨⟨h, h2⟩, k⟩
/-! operations -/
variable {x y : Int} {s t : Str} {ds : List PyData} {os : List O}
theorem z_addI (k : AO (.d (.int (x + y)))) : optW (addF [.d (.int x), .d (.int y)]) AO := k
theorem z_subI (k : AO (.d (.int (x - y)))) : optW (subF [.d (.int x), .d (.int y)]) AO := k
theorem z_mulI (h : mulC x y = true := by first | exact mulC_l | exact mulC_r) (k : AO (.d (.int (x * y)))) : optW (mulF [.d (.int x), .d (.int y)]) AO := by rw [mulF_i, if_pos h]; exact k
theorem z_divI (h0 : 0 < y := by omega) (h1 : y < 1073741824 := by omega) (k : AO (.d (.int (x / y)))) : optW (divF [.d (.int x), .d (.int y)]) AO := by rw [divF_i, if_pos (by simp [h0, h1])]; exact k
theorem z_modI (h0 : 0 < y := by omega) (k : AO (.d (.int (x % y)))) : optW (modF [.d (.int x), .d (.int y)]) AO := by rw [modF_i, if_pos (by simp [h0])]; exact k
theorem z_powI (h : powC x y = true) (k : AO (.d (.int (x ^ y.toNat)))) : optW (powF [.d (.int x), .d (.int y)]) AO := by rw [powF_i, if_pos h]; exact k
theorem z_negI (k : AO (.d (.int (-x)))) : optW (negF [.d (.int x)]) AO := k
theorem z_ltI (k : AO (.d (.bool (decide (x < y))))) : optW (ltF [.d (.int x), .d (.int y)]) AO := k
theorem z_leI (k : AO (.d (.bool (decide (x ≤ y))))) : optW (leF [.d (.int x), .d (.int y)]) AO := k
theorem z_gtI (k : AO (.d (.bool (decide (y < x))))) : optW (gtF [.d (.int x), .d (.int y)]) AO := k
theorem z_geI (k : AO (.d (.bool (decide (y ≤ x))))) : optW (geF [.d (.int x), .d (.int y)]) AO := k
theorem z_maxI (k : AO (.d (.int (max x y)))) : optW (max2F [.d (.int x), .d (.int y)]) AO := by
  have e : (if y > x then y else x) = max x y := by omega
  rw [max2F_i, e]; exact k
theorem z_minI (k : AO (.d (.int (min x y)))) : optW (min2F [.d (.int x), .d (.int y)]) AO := by
  have e : (if y < x then y else x) = min x y := by omega
  rw [min2F_i, e]; exact k
theorem z_eqI (k : AO (.d (.bool (x == y)))) : optW (eqF [.d (.int x), .d (.int y)]) AO := by rw [eqF_i]; exact k
theorem z_neI (k : AO (.d (.bool (!(x == y))))) : optW (neF [.d (.int x), .d (.int y)]) AO := by rw [neF_i]; exact k
theorem z_eqB {p q : Bool} (k : AO (.d (.bool (p == q)))) : optW (eqF [.d (.bool p), .d (.bool q)]) AO := by rw [eqF_b]; exact k
theorem z_isi {n : String} {o : O} {b : Bool} {P : Bool → Prop} (h : tyN o ≠ "") (q : kitB (tyN o) n = some b) (k : P b) : tyN o ≠ "" ∧ optW (kitB (tyN o) n) P := ⟨h, by rw [q]; exact k⟩
theorem z_eqS (k : AO (.d (.bool (s == t)))) : optW (eqF [.d (.str s), .d (.str t)]) AO := k
theorem z_neS (k : AO (.d (.bool (!(s == t))))) : optW (neF [.d (.str s), .d (.str t)]) AO := k
theorem z_addS (h : s.length + t.length ≤ 16777216) (k : AO (.d (.str (s ++ t)))) : optW (addF [.d (.str s), .d (.str t)]) AO := by rw [addF_s, if_pos (lenOk_of h)]; exact k
theorem z_lenS (h : s.length ≤ 16777216) (k : AO (.d (.int s.length))) : optW (lenF [.d (.str s)]) AO := by rw [lenF_s, if_pos (lenOk_of h)]; exact k
theorem z_lenG (k : AO (.d (.int ds.length))) : optW (lenF [.gL ds]) AO := k
theorem z_lenGT (k : AO (.d (.int ds.length))) : optW (lenF [.gT ds]) AO := k
theorem z_lenL (k : AO (.d (.int ds.length))) : optW (lenF [.d (.list ds)]) AO := k
theorem z_lenT (k : AO (.d (.int ds.length))) : optW (lenF [.d (.tuple ds)]) AO := k
theorem z_lenO (k : AO (.d (.int os.length))) : optW (lenF [.lst os]) AO := k
theorem z_slHi (h : s.length ≤ 16777216) (k : AO (.d (.str (cutS s none (some x))))) : optW (slF false true [.d (.str s), .d (.int x)]) AO := by rw [slHi_s, if_pos (lenOk_of h)]; exact k
theorem z_slLo (h : s.length ≤ 16777216) (k : AO (.d (.str (cutS s (some x) none)))) : optW (slF true false [.d (.str s), .d (.int x)]) AO := by rw [slLo_s, if_pos (lenOk_of h)]; exact k
theorem z_slB {l r : Option Int} (h : s.length ≤ 16777216) (k : AO (.d (.str (cutS s l r)))) : optW (slB (.d (.str s)) l r) AO := by rw [slB_s, if_pos (lenOk_of h)]; exact k
theorem z_lenOk {n : Nat} {P : Prop} (h : lenOk n = true) (k : P) : lenOk n = true ∧ P := ⟨h, k⟩
theorem z_addLL {xs ys : List PyData} {as bs : List O} (ha : allD as = some xs) (hb : allD bs = some ys) (hl : xs.length + ys.length ≤ 16777216) (k : AO (.lst ((xs ++ ys).map O.d))) : optW (addF [.lst as, .lst bs]) AO := by
  have e : addF [.lst as, .lst bs] = some (.lst ((xs ++ ys).map O.d)) := by simp [addF, asL, ha, hb, lenOk_of hl]
  rw [e]; exact k
theorem z_addDL {xs ys : List PyData} {bs : List O} (hb : allD bs = some ys) (hl : xs.length + ys.length ≤ 16777216) (k : AO (.lst ((xs ++ ys).map O.d))) : optW (addF [.d (.list xs), .lst bs]) AO := by
  have e : addF [.d (.list xs), .lst bs] = some (.lst ((xs ++ ys).map O.d)) := by simp [addF, asL, hb, lenOk_of hl]
  rw [e]; exact k
theorem z_addLD {xs ys : List PyData} {as : List O} (ha : allD as = some xs) (hl : xs.length + ys.length ≤ 16777216) (k : AO (.lst ((xs ++ ys).map O.d))) : optW (addF [.lst as, .d (.list ys)]) AO := by
  have e : addF [.lst as, .d (.list ys)] = some (.lst ((xs ++ ys).map O.d)) := by simp [addF, asL, ha, lenOk_of hl]
  rw [e]; exact k
theorem z_addDD {xs ys : List PyData} (hl : xs.length + ys.length ≤ 16777216) (k : AO (.lst ((xs ++ ys).map O.d))) : optW (addF [.d (.list xs), .d (.list ys)]) AO := by
  have e : addF [.d (.list xs), .d (.list ys)] = some (.lst ((xs ++ ys).map O.d)) := by simp [addF, asL, lenOk_of hl]
  rw [e]; exact k
theorem z_addTT {xs ys : List PyData} (hl : xs.length + ys.length ≤ 16777216) (k : AO (.d (.tuple (xs ++ ys)))) : optW (addF [.d (.tuple xs), .d (.tuple ys)]) AO := by
  have e : addF [.d (.tuple xs), .d (.tuple ys)] = some (.d (.tuple (xs ++ ys))) := by simp [addF, asL, asT, lenOk_of hl]
  rw [e]; exact k
theorem inB_lst {e : PyData} {os : List O} (h : allD os = some ds) (he : flatD e = true) (hd : ds.all flatD = true) : inB (.d e) (.lst os) = some (ds.any fun z => PyData.eqv z e) := by
  have h2 := asLT_d h
  cases e <;> first | (cases he; done) | simp [inB, h2, he, hd]
theorem inB_gT {e : PyData} (he : flatD e = true) (hd : ds.all flatD = true) : inB (.d e) (.gT ds) = some (ds.any fun z => PyData.eqv z e) := by
  cases e <;> first | (cases he; done) | simp [inB, he, hd]
theorem inB_gL {e : PyData} (he : flatD e = true) (hd : ds.all flatD = true) : inB (.d e) (.gL ds) = some (ds.any fun z => PyData.eqv z e) := by
  cases e <;> first | (cases he; done) | simp [inB, he, hd]
theorem inB_ch {c : Nat} {z : Str} : inB (.d (.str ⟨#[c]⟩)) (.d (.str z)) = some (decide (c ∈ z.cps.toList)) := rfl
theorem z_in {neg b : Bool} {o p : O} (h : inB o p = some b) (k : AO (.d (.bool (if neg then !b else b)))) : optW (inF neg [o, p]) AO := by
  unfold inF
  simp only [h]
  exact k
end
end Z

namespace Lawk09
open PySem PySem.Spec L2 Z
/-! is_name: 0=text 1=sign -/
def g_is_name : M Fl := (retM (andV (chM ltF leF (dM (.int 0)) (opM lenF (consM (pkM 0) (M.ret []))) (dM (.int 5))) (andV (opM (inF true) (consM (pkM 0) (consM (M.ret (.gT [(.str "yes"), (.str "no"), (.str "not"), (.str "and"), (.str "or"), (.str "done"), (.str "then"), (.str "if"), (.str "while"), (.str "either"), (.str "often"), (.str "asks"), (.str "deeds"), (.str "keeps"), (.str "makes"), (.str "rests"), (.str "idles"), (.str "still"), (.str "never")])) (M.ret [])))) (opM allF (consM (compM [1] (M.bd (fzM 0) itemsM) (setM 1) yesM (opM (inF false) (consM (pkM 1) (consM (dM (.str "abcdefghijklmnopqrstuvwxyz")) (M.ret []))))) (M.ret []))))))
def f_is_name : Fn := runF 1 1 2 g_is_name
/-! _law_box: 0=_law_script 1=_law_k 2=_law_cell 3=_law_seed -/
def g_law_box : M Fl := (seqM (asgM (opM addF (consM (opM mulF (consM (dM (.int 7919)) (consM (pkM 1) (M.ret [])))) (consM (dM (.int 11)) (M.ret [])))) (setM 2))
  (seqM (ifM (tstM (opM ltF (consM (pkM 1) (consM (opM lenF (consM (pkM 0) (M.ret []))) (M.ret []))))) (asgM (opM ixF (consM (pkM 0) (consM (pkM 1) (M.ret [])))) (setM 2)) (ifM (tstM (opM gtF (consM (opM lenF (consM (pkM 0) (M.ret []))) (consM (dM (.int 0)) (M.ret []))))) (asgM (opM addF (consM (pkM 2) (consM (opM mulF (consM (opM modF (consM (opM ixF (consM (pkM 0) (consM (opM modF (consM (pkM 1) (consM (opM lenF (consM (pkM 0) (M.ret []))) (M.ret [])))) (M.ret [])))) (consM (dM (.int 2147483629)) (M.ret [])))) (consM (dM (.int 69623)) (M.ret [])))) (M.ret [])))) (setM 2)) (M.ret .next)))
  (seqM (asgM (opM addF (consM (opM modF (consM (opM addF (consM (opM mulF (consM (opM modF (consM (pkM 2) (consM (dM (.int 2147483629)) (M.ret [])))) (consM (dM (.int 48271)) (M.ret [])))) (consM (opM mulF (consM (dM (.int 40692)) (consM (pkM 1) (M.ret [])))) (M.ret [])))) (consM (dM (.int 2147483629)) (M.ret [])))) (consM (dM (.int 1)) (M.ret [])))) (setM 3))
  (seqM (ifM (tstM (opM ltF (consM (pkM 2) (consM (opM powF (consM (dM (.int 10)) (consM (dM (.int 18)) (M.ret [])))) (M.ret []))))) (asgM (dM (.int 0)) (setM 2)) (M.ret .next))
  (retM (lstM (consM (fzM 2) (consM (fzM 3) (M.ret [])))))))))
def f_law_box : Fn := runF 2 2 4 g_law_box
/-! _law_take: 0=_law_box_here 1=_law_many 2=_law_digit 3=_law_one -/
def g_law_take : M Fl := (seqM (ifM (tstM (opM gtF (consM (opM ixF (consM (pkM 0) (consM (dM (.int 0)) (M.ret [])))) (consM (dM (.int 0)) (M.ret []))))) (seqM (asgM (opM modF (consM (opM ixF (consM (pkM 0) (consM (dM (.int 0)) (M.ret [])))) (consM (pkM 1) (M.ret [])))) (setM 2))
  (seqM (asgM (opM divF (consM (opM ixF (consM (pkM 0) (consM (dM (.int 0)) (M.ret [])))) (consM (pkM 1) (M.ret [])))) (ixSetM 0 (dM (.int 0))))
  (retM (mvM 2)))) (M.ret .next))
  (seqM (asgM (opM modF (consM (opM mulF (consM (opM ixF (consM (pkM 0) (consM (dM (.int 1)) (M.ret [])))) (consM (dM (.int 69623)) (M.ret [])))) (consM (dM (.int 2147483647)) (M.ret [])))) (setM 3))
  (seqM (asgM (opM addF (consM (opM modF (consM (opM addF (consM (opM mulF (consM (pkM 3) (consM (dM (.int 48271)) (M.ret [])))) (consM (dM (.int 30103)) (M.ret [])))) (consM (dM (.int 2147483629)) (M.ret [])))) (consM (dM (.int 1)) (M.ret [])))) (ixSetM 0 (dM (.int 1))))
  (retM (opM modF (consM (opM divF (consM (opM addF (consM (opM mulF (consM (pkM 3) (consM (dM (.int 2147483647)) (M.ret [])))) (consM (opM ixF (consM (pkM 0) (consM (dM (.int 1)) (M.ret [])))) (M.ret [])))) (consM (dM (.int 8191)) (M.ret [])))) (consM (pkM 1) (M.ret []))))))))
def f_law_take : Fn := runF 2 2 4 g_law_take
/-! _law_taken: 0=_law_some -/
def g_law_taken : M Fl := (seqM (asgM (lstM (consM (dM (.str "yes")) (consM (dM (.str "no")) (consM (dM (.str "not")) (consM (dM (.str "and")) (consM (dM (.str "or")) (consM (dM (.str "done")) (consM (dM (.str "then")) (consM (dM (.str "if")) (consM (dM (.str "while")) (consM (dM (.str "either")) (consM (dM (.str "often")) (consM (dM (.str "asks")) (consM (dM (.str "deeds")) (M.ret []))))))))))))))) (setM 0))
  (retM (opM addF (consM (pkM 0) (consM (lstM (consM (dM (.str "keeps")) (consM (dM (.str "makes")) (consM (dM (.str "rests")) (consM (dM (.str "idles")) (consM (dM (.str "still")) (consM (dM (.str "never")) (M.ret [])))))))) (M.ret []))))))
def f_law_taken : Fn := runF 0 0 1 g_law_taken
/-! _law_name: 0=_law_box_here 1=_law_letters 2=_law_name_here 3=_law_word 4=_law_at 5=_law_some 6=_law_k -/
def g_law_name : M Fl := (seqM (asgM (dM (.str "abcdefghijklmnopqrstuvwxyz")) (setM 1))
  (seqM (asgM (joinM (dM (.str "")) (compM [6] (M.bd (consM (opM addF (consM (dM (.int 1)) (consM (callM f_law_take [] (slIn 0 (valA (dM (.int 5)) (M.ret [])))) (M.ret [])))) (M.ret [])) rng1M) (setM 6) yesM (opM ixF (consM (fzM 1) (consM (callM f_law_take [] (slIn 0 (valA (dM (.int 26)) (M.ret [])))) (M.ret [])))))) (setM 2))
  (seqM (ifM (tstM (opM eqF (consM (callM f_law_take [] (slIn 0 (valA (dM (.int 4)) (M.ret [])))) (consM (dM (.int 0)) (M.ret []))))) (seqM (asgM (opM ixF (consM (callM f_law_taken [] (M.ret [])) (consM (callM f_law_take [] (slIn 0 (valA (dM (.int 19)) (M.ret [])))) (M.ret [])))) (setM 3))
  (seqM (asgM (callM f_law_take [] (slIn 0 (valA (opM addF (consM (opM lenF (consM (pkM 3) (M.ret []))) (consM (dM (.int 1)) (M.ret [])))) (M.ret [])))) (setM 4))
  (seqM (asgM (lstM (consM (opM addF (consM (opM (slF false true) (consM (pkM 3) (consM (pkM 4) (M.ret [])))) (consM (opM (slF true false) (consM (pkM 3) (consM (opM addF (consM (pkM 4) (consM (dM (.int 1)) (M.ret [])))) (M.ret [])))) (M.ret [])))) (consM (opM addF (consM (opM addF (consM (opM (slF false true) (consM (pkM 3) (consM (pkM 4) (M.ret [])))) (consM (opM ixF (consM (pkM 2) (consM (dM (.int 0)) (M.ret [])))) (M.ret [])))) (consM (opM (slF true false) (consM (pkM 3) (consM (pkM 4) (M.ret [])))) (M.ret [])))) (consM (opM addF (consM (opM addF (consM (opM (slF false true) (consM (pkM 3) (consM (pkM 4) (M.ret [])))) (consM (opM ixF (consM (pkM 2) (consM (dM (.int 0)) (M.ret [])))) (M.ret [])))) (consM (opM (slF true false) (consM (pkM 3) (consM (opM addF (consM (pkM 4) (consM (dM (.int 1)) (M.ret [])))) (M.ret [])))) (M.ret [])))) (M.ret []))))) (setM 5))
  (asgM (opM (slF false true) (consM (opM ixF (consM (fzM 5) (consM (callM f_law_take [] (slIn 0 (valA (dM (.int 3)) (M.ret [])))) (M.ret [])))) (consM (dM (.int 5)) (M.ret [])))) (setM 2))))) (M.ret .next))
  (seqM (ifM (tstM (opM eqF (consM (callM f_law_take [] (slIn 0 (valA (dM (.int 12)) (M.ret [])))) (consM (dM (.int 0)) (M.ret []))))) (asgM (opM ixF (consM (lstM (consM (dM (.str "do")) (consM (dM (.str "ask")) (M.ret [])))) (consM (callM f_law_take [] (slIn 0 (valA (dM (.int 2)) (M.ret [])))) (M.ret [])))) (setM 2)) (M.ret .next))
  (seqM (ifM (orZ (tstM (opM eqF (consM (pkM 2) (consM (dM (.str "")) (M.ret []))))) (tstM (opM (inF false) (consM (fzM 2) (consM (callM f_law_taken [] (M.ret [])) (M.ret [])))))) (asgM (dM (.str "q")) (setM 2)) (M.ret .next))
  (retM (mvM 2)))))))
def f_law_name : Fn := runF 1 1 7 g_law_name
/-! _law_other: 0=_law_box_here 1=_law_text 2=_law_signs 3=_law_sign 4=_law_at 5=_law_form 6=_law_some -/
def g_law_other : M Fl := (seqM (asgM (dM (.str " !\"#$&'()*+,-./0123456789:;<=>?@ABCDEFGHIJKLMNOPQRSTUVWXYZ[\\]^_`abcdefghijklmnopqrstuvwxyz{|}~\n")) (setM 2))
  (seqM (asgM (opM ixF (consM (fzM 2) (consM (callM f_law_take [] (slIn 0 (valA (opM lenF (consM (pkM 2) (M.ret []))) (M.ret [])))) (M.ret [])))) (setM 3))
  (seqM (asgM (callM f_law_take [] (slIn 0 (valA (opM addF (consM (opM lenF (consM (pkM 1) (M.ret []))) (consM (dM (.int 1)) (M.ret [])))) (M.ret [])))) (setM 4))
  (seqM (asgM (callM f_law_take [] (slIn 0 (valA (dM (.int 6)) (M.ret [])))) (setM 5))
  (seqM (asgM (lstM (consM (opM addF (consM (opM addF (consM (opM (slF false true) (consM (pkM 1) (consM (pkM 4) (M.ret [])))) (consM (pkM 3) (M.ret [])))) (consM (opM (slF true false) (consM (pkM 1) (consM (pkM 4) (M.ret [])))) (M.ret [])))) (consM (opM addF (consM (opM addF (consM (opM (slF false true) (consM (pkM 1) (consM (pkM 4) (M.ret [])))) (consM (pkM 3) (M.ret [])))) (consM (opM (slF true false) (consM (pkM 1) (consM (opM addF (consM (pkM 4) (consM (dM (.int 1)) (M.ret [])))) (M.ret [])))) (M.ret [])))) (consM (opM addF (consM (opM (slF false true) (consM (pkM 1) (consM (pkM 4) (M.ret [])))) (consM (opM (slF true false) (consM (pkM 1) (consM (opM addF (consM (pkM 4) (consM (dM (.int 1)) (M.ret [])))) (M.ret [])))) (M.ret [])))) (M.ret []))))) (setM 6))
  (seqM (asgM (opM addF (consM (fzM 6) (consM (lstM (consM (opM addF (consM (opM addF (consM (opM (slF false true) (consM (pkM 1) (consM (pkM 4) (M.ret [])))) (consM (upM (slLhM (pkM 1) (rdM 4) (opM addF (consM (pkM 4) (consM (dM (.int 1)) (M.ret [])))))) (M.ret [])))) (consM (opM (slF true false) (consM (pkM 1) (consM (opM addF (consM (pkM 4) (consM (dM (.int 1)) (M.ret [])))) (M.ret [])))) (M.ret [])))) (consM (opM addF (consM (fzM 1) (consM (opM (slF false true) (consM (dM (.str "abcdefgh")) (consM (callM f_law_take [] (slIn 0 (valA (dM (.int 4)) (M.ret [])))) (M.ret [])))) (M.ret [])))) (consM (dM (.str "")) (M.ret []))))) (M.ret [])))) (setM 6))
  (retM (opM ixF (consM (pkM 6) (consM (pkM 5) (M.ret [])))))))))))
def f_law_other : Fn := runF 2 2 7 g_law_other
/-! _law_due: 0=_law_text 1=_law_sign -/
def g_law_due : M Fl := (seqM (ifM (tstM (opM (inF false) (consM (fzM 0) (consM (callM f_law_taken [] (M.ret [])) (M.ret []))))) (retM (dM (.bool false))) (M.ret .next))
  (retM (andV (chM ltF ltF (dM (.int 0)) (opM lenF (consM (pkM 0) (M.ret []))) (dM (.int 6))) (opM allF (consM (compM [1] (M.bd (fzM 0) itemsM) (setM 1) yesM (opM (inF false) (consM (pkM 1) (consM (dM (.str "abcdefghijklmnopqrstuvwxyz")) (M.ret []))))) (M.ret []))))))
def f_law_due : Fn := runF 1 1 2 g_law_due
/-! _law_right: 0=_law_text 1=_law_found -/
def g_law_right : M Fl := (seqM (asgM (callM f_is_name [] (slIn 0 (M.ret []))) (setM 1))
  (retM (andV (isiM "bool" (pkM 1)) (opM eqF (consM (fzM 1) (consM (callM f_law_due [] (slIn 0 (M.ret []))) (M.ret [])))))))
def f_law_right : Fn := runF 1 1 2 g_law_right
/-! law: 0=_law_script 1=_law_k 2=_law_box_here 3=_law_text 4=_law_other_here 5=_law_turn -/
def g_law : M Fl := (seqM (M.bd (M.bd (consM (opM max2F (consM (dM (.int 3)) (consM (opM min2F (consM (dM (.int 20)) (consM (opM lenF (consM (pkM 0) (M.ret []))) (M.ret [])))) (M.ret [])))) (M.ret [])) rng1M) (forM (setM 1) (seqM (asgM (callM f_law_box [] (slIn 0 (slIn 1 (M.ret [])))) (setM 2))
  (seqM (asgM (opM ixF (consM (lstM (consM (callM f_law_name [] (slIn 2 (M.ret []))) (consM (opM ixF (consM (callM f_law_taken [] (M.ret [])) (consM (callM f_law_take [] (slIn 2 (valA (dM (.int 19)) (M.ret [])))) (M.ret [])))) (M.ret [])))) (consM (callM f_law_take [] (slIn 2 (valA (dM (.int 2)) (M.ret [])))) (M.ret [])))) (setM 3))
  (seqM (asgM (fzM 3) (setM 4))
  (seqM (M.bd (M.bd (consM (callM f_law_take [] (slIn 2 (valA (dM (.int 3)) (M.ret [])))) (M.ret [])) rng1M) (forM (setM 5) (asgM (callM f_law_other [] (slIn 2 (slIn 4 (M.ret [])))) (setM 4))))
  (ifM (orZ (notZ (tstM (callM f_law_right [] (slIn 3 (M.ret []))))) (orZ (notZ (tstM (callM f_law_right [] (slIn 4 (M.ret []))))) (notZ (tstM (callM f_law_right [] (slIn 3 (M.ret []))))))) (retM (dM (.bool false))) (M.ret .next))))))))
  (retM (dM (.bool true))))
def f_law : Fn := runF 1 1 6 g_law
end Lawk09

namespace Lawk09
open PySem PySem.Spec L2 Z
theorem take_eq : f_law_take = f_take := rfl
def takenD : List PyData := [.str "yes", .str "no", .str "not", .str "and", .str "or", .str "done", .str "then", .str "if", .str "while", .str "either", .str "often", .str "asks", .str "deeds", .str "keeps", .str "makes", .str "rests", .str "idles", .str "still", .str "never"]
theorem taken_eq : f_law_taken [] = .ok (.lst (takenD.map O.d)) [] := by rfl
theorem taken_len : ∀ x ∈ takenD, ∃ z : Str, x = .str z ∧ z.length ≤ 7 := by
  simp only [takenD, List.mem_cons, List.not_mem_nil, or_false]
  intro x h
  rcases h with h | h | h | h | h | h | h | h | h | h | h | h | h | h | h | h | h | h | h <;> exact ⟨_, h, by decide⟩
theorem fw_tk {bx : O} {n : Int} (h : Bx bx) (h0 : 0 < n) (h1 : n < 1073741824) {A : O → List O → Prop} {B : Exn → Prop} (k : ∀ (r c s : Int), 0 ≤ r → r < n → A (.d (.int r)) [.lst [.d (.int c), .d (.int s)], .d (.int n)]) :
    FW (f_law_take [bx, .d (.int n)]) A B := fw_take h h0 h1 fun r bx' hb a b => by
  obtain ⟨c, s, rfl⟩ := hb
  exact k r c s a b
theorem len_intsF (a : Int) (n : Nat) : (intsF a n).length = n := by simp [intsF]
theorem fw_name {c s : Int} {A : O → List O → Prop} {B : Exn → Prop} (k : ∀ (z : Str) (c s : Int), z.length ≤ 5 → A (.d (.str z)) [.lst [.d (.int c), .d (.int s)]]) : FW (f_law_name [.lst [.d (.int c), .d (.int s)]]) A B := by
  refine z_run rfl rfl (by simp only [List.map_cons, List.map_nil, List.cons_append, List.nil_append, Nat.reduceSub, List.replicate_succ, List.replicate_zero]; rfl) ?_
  unfold g_law_name
  repeat (with_reducible first | refine z_lenOk (by with_unfolding_all rfl) ?_ | refine Eq.mpr optW_some ?_ | refine Eq.mpr fw_ok ?_ | refine Eq.mpr wp_seq ?_ | refine Eq.mpr wp_asg ?_ | refine Eq.mpr wp_retM ?_ | refine Eq.mpr wp_if ?_ | refine Eq.mpr wp_tst ?_ | refine Eq.mpr wp_op ?_ | refine Eq.mpr wp_cons ?_ | refine Eq.mpr wp_d ?_ | refine Eq.mpr wp_ret ?_ | refine Eq.mpr wp_valA ?_ | refine Eq.mpr wp_bd ?_ | refine Eq.mpr wp_andV ?_ | refine Eq.mpr wp_orV ?_ | refine Eq.mpr wp_notV ?_ | refine Eq.mpr wp_notZ ?_ | refine Eq.mpr wp_andZ ?_ | refine Eq.mpr wp_orZ ?_ | refine Eq.mpr wp_lst ?_ | refine Eq.mpr wp_tup ?_ | refine Eq.mpr wp_drop ?_ | refine Eq.mpr wp_bl ?_ | refine Eq.mpr wp_ch ?_ | refine Eq.mpr wp_slLh ?_ | refine Eq.mpr wp_up ?_ | refine Eq.mpr wp_join ?_ | refine Eq.mpr wp_comp ?_ | refine Eq.mpr wp_vw ?_ | refine Eq.mpr wp_opt ?_ | refine z_rd (by with_unfolding_all rfl) ?_ | refine z_pk (by with_unfolding_all rfl) ?_ | refine z_mv (by with_unfolding_all rfl) (by simp only [restG, wipeG, List.set_cons_zero, List.set_cons_succ, List.getElem?_cons_zero, List.getElem?_cons_succ, Option.getD_some]; with_unfolding_all rfl) ?_ | refine z_fz (by with_unfolding_all rfl) ?_ | refine z_fzL (by with_unfolding_all rfl) (by with_unfolding_all rfl) (by simp only [restG, wipeG, List.set_cons_zero, List.set_cons_succ, List.getElem?_cons_zero, List.getElem?_cons_succ, Option.getD_some]; with_unfolding_all rfl) ?_ | refine z_set (by simp only [restG, wipeG, List.set_cons_zero, List.set_cons_succ, List.getElem?_cons_zero, List.getElem?_cons_succ, Option.getD_some]; with_unfolding_all rfl) ?_ | refine z_sl (by with_unfolding_all rfl) ?_ | refine z_addI ?_ | refine z_subI ?_ | refine z_mulI (by first | exact mulC_l | exact mulC_r) ?_ | refine z_divI (by omega) (by omega) ?_ | refine z_modI (by omega) ?_ | refine z_powI (by with_unfolding_all rfl) ?_ | refine z_negI ?_ | refine z_ltI ?_ | refine z_leI ?_ | refine z_gtI ?_ | refine z_geI ?_ | refine z_maxI ?_ | refine z_minI ?_ | refine z_eqI ?_ | refine z_eqB ?_ | refine Eq.mpr wp_isi ?_ | refine z_neI ?_ | refine z_eqS ?_ | refine z_neS ?_ | refine z_lenG ?_ | refine z_lenGT ?_ | refine z_lenL ?_ | refine z_lenT ?_ | refine z_lenO ?_ | refine z_lenS (by omega) ?_ | refine z_slHi (by omega) ?_ | refine z_slLo (by omega) ?_ | refine z_slB (by omega) ?_ | refine z_addS (by with_unfolding_all ((try simp only [len_app]); omega)) ?_ | refine z_itL ?_ | refine z_itT ?_ | refine z_itS ?_ | refine z_itgL ?_ | refine z_itgT ?_ | refine z_call ?_ | refine z_cw (by with_unfolding_all rfl) (by simp only [List.map_nil, List.append_nil]; rfl) ?_ | refine z_back (by with_unfolding_all rfl) (by simp only [giveA, List.length_cons, List.length_nil, List.take_succ_cons, List.take_zero, List.getElem?_cons_zero, List.getElem?_cons_succ, List.set_cons_zero, List.set_cons_succ]; with_unfolding_all rfl) ?_ | refine z_fin (by with_unfolding_all rfl) ?_)
  refine fw_tk ⟨_, _, rfl⟩ (by omega) (by omega) fun n c s h0 h1 => ?_
  repeat (with_reducible first | refine z_lenOk (by with_unfolding_all rfl) ?_ | refine Eq.mpr optW_some ?_ | refine Eq.mpr fw_ok ?_ | refine Eq.mpr wp_seq ?_ | refine Eq.mpr wp_asg ?_ | refine Eq.mpr wp_retM ?_ | refine Eq.mpr wp_if ?_ | refine Eq.mpr wp_tst ?_ | refine Eq.mpr wp_op ?_ | refine Eq.mpr wp_cons ?_ | refine Eq.mpr wp_d ?_ | refine Eq.mpr wp_ret ?_ | refine Eq.mpr wp_valA ?_ | refine Eq.mpr wp_bd ?_ | refine Eq.mpr wp_andV ?_ | refine Eq.mpr wp_orV ?_ | refine Eq.mpr wp_notV ?_ | refine Eq.mpr wp_notZ ?_ | refine Eq.mpr wp_andZ ?_ | refine Eq.mpr wp_orZ ?_ | refine Eq.mpr wp_lst ?_ | refine Eq.mpr wp_tup ?_ | refine Eq.mpr wp_drop ?_ | refine Eq.mpr wp_bl ?_ | refine Eq.mpr wp_ch ?_ | refine Eq.mpr wp_slLh ?_ | refine Eq.mpr wp_up ?_ | refine Eq.mpr wp_join ?_ | refine Eq.mpr wp_comp ?_ | refine Eq.mpr wp_vw ?_ | refine Eq.mpr wp_opt ?_ | refine z_rd (by with_unfolding_all rfl) ?_ | refine z_pk (by with_unfolding_all rfl) ?_ | refine z_mv (by with_unfolding_all rfl) (by simp only [restG, wipeG, List.set_cons_zero, List.set_cons_succ, List.getElem?_cons_zero, List.getElem?_cons_succ, Option.getD_some]; with_unfolding_all rfl) ?_ | refine z_fz (by with_unfolding_all rfl) ?_ | refine z_fzL (by with_unfolding_all rfl) (by with_unfolding_all rfl) (by simp only [restG, wipeG, List.set_cons_zero, List.set_cons_succ, List.getElem?_cons_zero, List.getElem?_cons_succ, Option.getD_some]; with_unfolding_all rfl) ?_ | refine z_set (by simp only [restG, wipeG, List.set_cons_zero, List.set_cons_succ, List.getElem?_cons_zero, List.getElem?_cons_succ, Option.getD_some]; with_unfolding_all rfl) ?_ | refine z_sl (by with_unfolding_all rfl) ?_ | refine z_addI ?_ | refine z_subI ?_ | refine z_mulI (by first | exact mulC_l | exact mulC_r) ?_ | refine z_divI (by omega) (by omega) ?_ | refine z_modI (by omega) ?_ | refine z_powI (by with_unfolding_all rfl) ?_ | refine z_negI ?_ | refine z_ltI ?_ | refine z_leI ?_ | refine z_gtI ?_ | refine z_geI ?_ | refine z_maxI ?_ | refine z_minI ?_ | refine z_eqI ?_ | refine z_eqB ?_ | refine Eq.mpr wp_isi ?_ | refine z_neI ?_ | refine z_eqS ?_ | refine z_neS ?_ | refine z_lenG ?_ | refine z_lenGT ?_ | refine z_lenL ?_ | refine z_lenT ?_ | refine z_lenO ?_ | refine z_lenS (by omega) ?_ | refine z_slHi (by omega) ?_ | refine z_slLo (by omega) ?_ | refine z_slB (by omega) ?_ | refine z_addS (by with_unfolding_all ((try simp only [len_app]); omega)) ?_ | refine z_itL ?_ | refine z_itT ?_ | refine z_itS ?_ | refine z_itgL ?_ | refine z_itgT ?_ | refine z_call ?_ | refine z_cw (by with_unfolding_all rfl) (by simp only [List.map_nil, List.append_nil]; rfl) ?_ | refine z_back (by with_unfolding_all rfl) (by simp only [giveA, List.length_cons, List.length_nil, List.take_succ_cons, List.take_zero, List.getElem?_cons_zero, List.getElem?_cons_succ, List.set_cons_zero, List.set_cons_succ]; with_unfolding_all rfl) ?_ | refine z_fin (by with_unfolding_all rfl) ?_)
  refine z_rng1 (by omega) (by omega) ?_
  repeat (with_reducible first | refine z_lenOk (by with_unfolding_all rfl) ?_ | refine Eq.mpr optW_some ?_ | refine Eq.mpr fw_ok ?_ | refine Eq.mpr wp_seq ?_ | refine Eq.mpr wp_asg ?_ | refine Eq.mpr wp_retM ?_ | refine Eq.mpr wp_if ?_ | refine Eq.mpr wp_tst ?_ | refine Eq.mpr wp_op ?_ | refine Eq.mpr wp_cons ?_ | refine Eq.mpr wp_d ?_ | refine Eq.mpr wp_ret ?_ | refine Eq.mpr wp_valA ?_ | refine Eq.mpr wp_bd ?_ | refine Eq.mpr wp_andV ?_ | refine Eq.mpr wp_orV ?_ | refine Eq.mpr wp_notV ?_ | refine Eq.mpr wp_notZ ?_ | refine Eq.mpr wp_andZ ?_ | refine Eq.mpr wp_orZ ?_ | refine Eq.mpr wp_lst ?_ | refine Eq.mpr wp_tup ?_ | refine Eq.mpr wp_drop ?_ | refine Eq.mpr wp_bl ?_ | refine Eq.mpr wp_ch ?_ | refine Eq.mpr wp_slLh ?_ | refine Eq.mpr wp_up ?_ | refine Eq.mpr wp_join ?_ | refine Eq.mpr wp_comp ?_ | refine Eq.mpr wp_vw ?_ | refine Eq.mpr wp_opt ?_ | refine z_rd (by with_unfolding_all rfl) ?_ | refine z_pk (by with_unfolding_all rfl) ?_ | refine z_mv (by with_unfolding_all rfl) (by simp only [restG, wipeG, List.set_cons_zero, List.set_cons_succ, List.getElem?_cons_zero, List.getElem?_cons_succ, Option.getD_some]; with_unfolding_all rfl) ?_ | refine z_fz (by with_unfolding_all rfl) ?_ | refine z_fzL (by with_unfolding_all rfl) (by with_unfolding_all rfl) (by simp only [restG, wipeG, List.set_cons_zero, List.set_cons_succ, List.getElem?_cons_zero, List.getElem?_cons_succ, Option.getD_some]; with_unfolding_all rfl) ?_ | refine z_set (by simp only [restG, wipeG, List.set_cons_zero, List.set_cons_succ, List.getElem?_cons_zero, List.getElem?_cons_succ, Option.getD_some]; with_unfolding_all rfl) ?_ | refine z_sl (by with_unfolding_all rfl) ?_ | refine z_addI ?_ | refine z_subI ?_ | refine z_mulI (by first | exact mulC_l | exact mulC_r) ?_ | refine z_divI (by omega) (by omega) ?_ | refine z_modI (by omega) ?_ | refine z_powI (by with_unfolding_all rfl) ?_ | refine z_negI ?_ | refine z_ltI ?_ | refine z_leI ?_ | refine z_gtI ?_ | refine z_geI ?_ | refine z_maxI ?_ | refine z_minI ?_ | refine z_eqI ?_ | refine z_eqB ?_ | refine Eq.mpr wp_isi ?_ | refine z_neI ?_ | refine z_eqS ?_ | refine z_neS ?_ | refine z_lenG ?_ | refine z_lenGT ?_ | refine z_lenL ?_ | refine z_lenT ?_ | refine z_lenO ?_ | refine z_lenS (by omega) ?_ | refine z_slHi (by omega) ?_ | refine z_slLo (by omega) ?_ | refine z_slB (by omega) ?_ | refine z_addS (by with_unfolding_all ((try simp only [len_app]); omega)) ?_ | refine z_itL ?_ | refine z_itT ?_ | refine z_itS ?_ | refine z_itgL ?_ | refine z_itgT ?_ | refine z_call ?_ | refine z_cw (by with_unfolding_all rfl) (by simp only [List.map_nil, List.append_nil]; rfl) ?_ | refine z_back (by with_unfolding_all rfl) (by simp only [giveA, List.length_cons, List.length_nil, List.take_succ_cons, List.take_zero, List.getElem?_cons_zero, List.getElem?_cons_succ, List.set_cons_zero, List.set_cons_succ]; with_unfolding_all rfl) ?_ | refine z_fin (by with_unfolding_all rfl) ?_)
  have hl := len_intsF 0 (1 + n).toNat
  refine ⟨by rw [hl]; exact lenOk_of (by omega), ?_⟩
  refine wp_lc (fun ds acc g => ∃ (c s : Int) (l : List Str), g = [some (.lst [.d (.int c), .d (.int s)]), some (.d (.str "abcdefghijklmnopqrstuvwxyz")), none, none, none, none, none] ∧ acc = l.map (fun x => O.d (.str x)) ∧ (∀ a ∈ l, a.length = 1) ∧ l.length + ds.length = (1 + n).toNat)
    ?_ ?_ _ _ _ ⟨c, s, [], rfl, rfl, by simp, by simpa using hl⟩
  · rintro d r acc g ⟨c, s, l, rfl, rfl, hl1, hl2⟩
    repeat (with_reducible first | refine z_lenOk (by with_unfolding_all rfl) ?_ | refine Eq.mpr optW_some ?_ | refine Eq.mpr fw_ok ?_ | refine Eq.mpr wp_seq ?_ | refine Eq.mpr wp_asg ?_ | refine Eq.mpr wp_retM ?_ | refine Eq.mpr wp_if ?_ | refine Eq.mpr wp_tst ?_ | refine Eq.mpr wp_op ?_ | refine Eq.mpr wp_cons ?_ | refine Eq.mpr wp_d ?_ | refine Eq.mpr wp_ret ?_ | refine Eq.mpr wp_valA ?_ | refine Eq.mpr wp_bd ?_ | refine Eq.mpr wp_andV ?_ | refine Eq.mpr wp_orV ?_ | refine Eq.mpr wp_notV ?_ | refine Eq.mpr wp_notZ ?_ | refine Eq.mpr wp_andZ ?_ | refine Eq.mpr wp_orZ ?_ | refine Eq.mpr wp_lst ?_ | refine Eq.mpr wp_tup ?_ | refine Eq.mpr wp_drop ?_ | refine Eq.mpr wp_bl ?_ | refine Eq.mpr wp_ch ?_ | refine Eq.mpr wp_slLh ?_ | refine Eq.mpr wp_up ?_ | refine Eq.mpr wp_join ?_ | refine Eq.mpr wp_comp ?_ | refine Eq.mpr wp_vw ?_ | refine Eq.mpr wp_opt ?_ | refine z_rd (by with_unfolding_all rfl) ?_ | refine z_pk (by with_unfolding_all rfl) ?_ | refine z_mv (by with_unfolding_all rfl) (by simp only [restG, wipeG, List.set_cons_zero, List.set_cons_succ, List.getElem?_cons_zero, List.getElem?_cons_succ, Option.getD_some]; with_unfolding_all rfl) ?_ | refine z_fz (by with_unfolding_all rfl) ?_ | refine z_fzL (by with_unfolding_all rfl) (by with_unfolding_all rfl) (by simp only [restG, wipeG, List.set_cons_zero, List.set_cons_succ, List.getElem?_cons_zero, List.getElem?_cons_succ, Option.getD_some]; with_unfolding_all rfl) ?_ | refine z_set (by simp only [restG, wipeG, List.set_cons_zero, List.set_cons_succ, List.getElem?_cons_zero, List.getElem?_cons_succ, Option.getD_some]; with_unfolding_all rfl) ?_ | refine z_sl (by with_unfolding_all rfl) ?_ | refine z_addI ?_ | refine z_subI ?_ | refine z_mulI (by first | exact mulC_l | exact mulC_r) ?_ | refine z_divI (by omega) (by omega) ?_ | refine z_modI (by omega) ?_ | refine z_powI (by with_unfolding_all rfl) ?_ | refine z_negI ?_ | refine z_ltI ?_ | refine z_leI ?_ | refine z_gtI ?_ | refine z_geI ?_ | refine z_maxI ?_ | refine z_minI ?_ | refine z_eqI ?_ | refine z_eqB ?_ | refine Eq.mpr wp_isi ?_ | refine z_neI ?_ | refine z_eqS ?_ | refine z_neS ?_ | refine z_lenG ?_ | refine z_lenGT ?_ | refine z_lenL ?_ | refine z_lenT ?_ | refine z_lenO ?_ | refine z_lenS (by omega) ?_ | refine z_slHi (by omega) ?_ | refine z_slLo (by omega) ?_ | refine z_slB (by omega) ?_ | refine z_addS (by with_unfolding_all ((try simp only [len_app]); omega)) ?_ | refine z_itL ?_ | refine z_itT ?_ | refine z_itS ?_ | refine z_itgL ?_ | refine z_itgT ?_ | refine z_call ?_ | refine z_cw (by with_unfolding_all rfl) (by simp only [List.map_nil, List.append_nil]; rfl) ?_ | refine z_back (by with_unfolding_all rfl) (by simp only [giveA, List.length_cons, List.length_nil, List.take_succ_cons, List.take_zero, List.getElem?_cons_zero, List.getElem?_cons_succ, List.set_cons_zero, List.set_cons_succ]; with_unfolding_all rfl) ?_ | refine z_fin (by with_unfolding_all rfl) ?_)
    unfold yesM
    repeat (with_reducible first | refine z_lenOk (by with_unfolding_all rfl) ?_ | refine Eq.mpr optW_some ?_ | refine Eq.mpr fw_ok ?_ | refine Eq.mpr wp_seq ?_ | refine Eq.mpr wp_asg ?_ | refine Eq.mpr wp_retM ?_ | refine Eq.mpr wp_if ?_ | refine Eq.mpr wp_tst ?_ | refine Eq.mpr wp_op ?_ | refine Eq.mpr wp_cons ?_ | refine Eq.mpr wp_d ?_ | refine Eq.mpr wp_ret ?_ | refine Eq.mpr wp_valA ?_ | refine Eq.mpr wp_bd ?_ | refine Eq.mpr wp_andV ?_ | refine Eq.mpr wp_orV ?_ | refine Eq.mpr wp_notV ?_ | refine Eq.mpr wp_notZ ?_ | refine Eq.mpr wp_andZ ?_ | refine Eq.mpr wp_orZ ?_ | refine Eq.mpr wp_lst ?_ | refine Eq.mpr wp_tup ?_ | refine Eq.mpr wp_drop ?_ | refine Eq.mpr wp_bl ?_ | refine Eq.mpr wp_ch ?_ | refine Eq.mpr wp_slLh ?_ | refine Eq.mpr wp_up ?_ | refine Eq.mpr wp_join ?_ | refine Eq.mpr wp_comp ?_ | refine Eq.mpr wp_vw ?_ | refine Eq.mpr wp_opt ?_ | refine z_rd (by with_unfolding_all rfl) ?_ | refine z_pk (by with_unfolding_all rfl) ?_ | refine z_mv (by with_unfolding_all rfl) (by simp only [restG, wipeG, List.set_cons_zero, List.set_cons_succ, List.getElem?_cons_zero, List.getElem?_cons_succ, Option.getD_some]; with_unfolding_all rfl) ?_ | refine z_fz (by with_unfolding_all rfl) ?_ | refine z_fzL (by with_unfolding_all rfl) (by with_unfolding_all rfl) (by simp only [restG, wipeG, List.set_cons_zero, List.set_cons_succ, List.getElem?_cons_zero, List.getElem?_cons_succ, Option.getD_some]; with_unfolding_all rfl) ?_ | refine z_set (by simp only [restG, wipeG, List.set_cons_zero, List.set_cons_succ, List.getElem?_cons_zero, List.getElem?_cons_succ, Option.getD_some]; with_unfolding_all rfl) ?_ | refine z_sl (by with_unfolding_all rfl) ?_ | refine z_addI ?_ | refine z_subI ?_ | refine z_mulI (by first | exact mulC_l | exact mulC_r) ?_ | refine z_divI (by omega) (by omega) ?_ | refine z_modI (by omega) ?_ | refine z_powI (by with_unfolding_all rfl) ?_ | refine z_negI ?_ | refine z_ltI ?_ | refine z_leI ?_ | refine z_gtI ?_ | refine z_geI ?_ | refine z_maxI ?_ | refine z_minI ?_ | refine z_eqI ?_ | refine z_eqB ?_ | refine Eq.mpr wp_isi ?_ | refine z_neI ?_ | refine z_eqS ?_ | refine z_neS ?_ | refine z_lenG ?_ | refine z_lenGT ?_ | refine z_lenL ?_ | refine z_lenT ?_ | refine z_lenO ?_ | refine z_lenS (by omega) ?_ | refine z_slHi (by omega) ?_ | refine z_slLo (by omega) ?_ | refine z_slB (by omega) ?_ | refine z_addS (by with_unfolding_all ((try simp only [len_app]); omega)) ?_ | refine z_itL ?_ | refine z_itT ?_ | refine z_itS ?_ | refine z_itgL ?_ | refine z_itgT ?_ | refine z_call ?_ | refine z_cw (by with_unfolding_all rfl) (by simp only [List.map_nil, List.append_nil]; rfl) ?_ | refine z_back (by with_unfolding_all rfl) (by simp only [giveA, List.length_cons, List.length_nil, List.take_succ_cons, List.take_zero, List.getElem?_cons_zero, List.getElem?_cons_succ, List.set_cons_zero, List.set_cons_succ]; with_unfolding_all rfl) ?_ | refine z_fin (by with_unfolding_all rfl) ?_)
    refine z_ifT rfl ?_
    repeat (with_reducible first | refine z_lenOk (by with_unfolding_all rfl) ?_ | refine Eq.mpr optW_some ?_ | refine Eq.mpr fw_ok ?_ | refine Eq.mpr wp_seq ?_ | refine Eq.mpr wp_asg ?_ | refine Eq.mpr wp_retM ?_ | refine Eq.mpr wp_if ?_ | refine Eq.mpr wp_tst ?_ | refine Eq.mpr wp_op ?_ | refine Eq.mpr wp_cons ?_ | refine Eq.mpr wp_d ?_ | refine Eq.mpr wp_ret ?_ | refine Eq.mpr wp_valA ?_ | refine Eq.mpr wp_bd ?_ | refine Eq.mpr wp_andV ?_ | refine Eq.mpr wp_orV ?_ | refine Eq.mpr wp_notV ?_ | refine Eq.mpr wp_notZ ?_ | refine Eq.mpr wp_andZ ?_ | refine Eq.mpr wp_orZ ?_ | refine Eq.mpr wp_lst ?_ | refine Eq.mpr wp_tup ?_ | refine Eq.mpr wp_drop ?_ | refine Eq.mpr wp_bl ?_ | refine Eq.mpr wp_ch ?_ | refine Eq.mpr wp_slLh ?_ | refine Eq.mpr wp_up ?_ | refine Eq.mpr wp_join ?_ | refine Eq.mpr wp_comp ?_ | refine Eq.mpr wp_vw ?_ | refine Eq.mpr wp_opt ?_ | refine z_rd (by with_unfolding_all rfl) ?_ | refine z_pk (by with_unfolding_all rfl) ?_ | refine z_mv (by with_unfolding_all rfl) (by simp only [restG, wipeG, List.set_cons_zero, List.set_cons_succ, List.getElem?_cons_zero, List.getElem?_cons_succ, Option.getD_some]; with_unfolding_all rfl) ?_ | refine z_fz (by with_unfolding_all rfl) ?_ | refine z_fzL (by with_unfolding_all rfl) (by with_unfolding_all rfl) (by simp only [restG, wipeG, List.set_cons_zero, List.set_cons_succ, List.getElem?_cons_zero, List.getElem?_cons_succ, Option.getD_some]; with_unfolding_all rfl) ?_ | refine z_set (by simp only [restG, wipeG, List.set_cons_zero, List.set_cons_succ, List.getElem?_cons_zero, List.getElem?_cons_succ, Option.getD_some]; with_unfolding_all rfl) ?_ | refine z_sl (by with_unfolding_all rfl) ?_ | refine z_addI ?_ | refine z_subI ?_ | refine z_mulI (by first | exact mulC_l | exact mulC_r) ?_ | refine z_divI (by omega) (by omega) ?_ | refine z_modI (by omega) ?_ | refine z_powI (by with_unfolding_all rfl) ?_ | refine z_negI ?_ | refine z_ltI ?_ | refine z_leI ?_ | refine z_gtI ?_ | refine z_geI ?_ | refine z_maxI ?_ | refine z_minI ?_ | refine z_eqI ?_ | refine z_eqB ?_ | refine Eq.mpr wp_isi ?_ | refine z_neI ?_ | refine z_eqS ?_ | refine z_neS ?_ | refine z_lenG ?_ | refine z_lenGT ?_ | refine z_lenL ?_ | refine z_lenT ?_ | refine z_lenO ?_ | refine z_lenS (by omega) ?_ | refine z_slHi (by omega) ?_ | refine z_slLo (by omega) ?_ | refine z_slB (by omega) ?_ | refine z_addS (by with_unfolding_all ((try simp only [len_app]); omega)) ?_ | refine z_itL ?_ | refine z_itT ?_ | refine z_itS ?_ | refine z_itgL ?_ | refine z_itgT ?_ | refine z_call ?_ | refine z_cw (by with_unfolding_all rfl) (by simp only [List.map_nil, List.append_nil]; rfl) ?_ | refine z_back (by with_unfolding_all rfl) (by simp only [giveA, List.length_cons, List.length_nil, List.take_succ_cons, List.take_zero, List.getElem?_cons_zero, List.getElem?_cons_succ, List.set_cons_zero, List.set_cons_succ]; with_unfolding_all rfl) ?_ | refine z_fin (by with_unfolding_all rfl) ?_)
    refine fw_tk ⟨_, _, rfl⟩ (by omega) (by omega) fun m c s h2 h3 => ?_
    repeat (with_reducible first | refine z_lenOk (by with_unfolding_all rfl) ?_ | refine Eq.mpr optW_some ?_ | refine Eq.mpr fw_ok ?_ | refine Eq.mpr wp_seq ?_ | refine Eq.mpr wp_asg ?_ | refine Eq.mpr wp_retM ?_ | refine Eq.mpr wp_if ?_ | refine Eq.mpr wp_tst ?_ | refine Eq.mpr wp_op ?_ | refine Eq.mpr wp_cons ?_ | refine Eq.mpr wp_d ?_ | refine Eq.mpr wp_ret ?_ | refine Eq.mpr wp_valA ?_ | refine Eq.mpr wp_bd ?_ | refine Eq.mpr wp_andV ?_ | refine Eq.mpr wp_orV ?_ | refine Eq.mpr wp_notV ?_ | refine Eq.mpr wp_notZ ?_ | refine Eq.mpr wp_andZ ?_ | refine Eq.mpr wp_orZ ?_ | refine Eq.mpr wp_lst ?_ | refine Eq.mpr wp_tup ?_ | refine Eq.mpr wp_drop ?_ | refine Eq.mpr wp_bl ?_ | refine Eq.mpr wp_ch ?_ | refine Eq.mpr wp_slLh ?_ | refine Eq.mpr wp_up ?_ | refine Eq.mpr wp_join ?_ | refine Eq.mpr wp_comp ?_ | refine Eq.mpr wp_vw ?_ | refine Eq.mpr wp_opt ?_ | refine z_rd (by with_unfolding_all rfl) ?_ | refine z_pk (by with_unfolding_all rfl) ?_ | refine z_mv (by with_unfolding_all rfl) (by simp only [restG, wipeG, List.set_cons_zero, List.set_cons_succ, List.getElem?_cons_zero, List.getElem?_cons_succ, Option.getD_some]; with_unfolding_all rfl) ?_ | refine z_fz (by with_unfolding_all rfl) ?_ | refine z_fzL (by with_unfolding_all rfl) (by with_unfolding_all rfl) (by simp only [restG, wipeG, List.set_cons_zero, List.set_cons_succ, List.getElem?_cons_zero, List.getElem?_cons_succ, Option.getD_some]; with_unfolding_all rfl) ?_ | refine z_set (by simp only [restG, wipeG, List.set_cons_zero, List.set_cons_succ, List.getElem?_cons_zero, List.getElem?_cons_succ, Option.getD_some]; with_unfolding_all rfl) ?_ | refine z_sl (by with_unfolding_all rfl) ?_ | refine z_addI ?_ | refine z_subI ?_ | refine z_mulI (by first | exact mulC_l | exact mulC_r) ?_ | refine z_divI (by omega) (by omega) ?_ | refine z_modI (by omega) ?_ | refine z_powI (by with_unfolding_all rfl) ?_ | refine z_negI ?_ | refine z_ltI ?_ | refine z_leI ?_ | refine z_gtI ?_ | refine z_geI ?_ | refine z_maxI ?_ | refine z_minI ?_ | refine z_eqI ?_ | refine z_eqB ?_ | refine Eq.mpr wp_isi ?_ | refine z_neI ?_ | refine z_eqS ?_ | refine z_neS ?_ | refine z_lenG ?_ | refine z_lenGT ?_ | refine z_lenL ?_ | refine z_lenT ?_ | refine z_lenO ?_ | refine z_lenS (by omega) ?_ | refine z_slHi (by omega) ?_ | refine z_slLo (by omega) ?_ | refine z_slB (by omega) ?_ | refine z_addS (by with_unfolding_all ((try simp only [len_app]); omega)) ?_ | refine z_itL ?_ | refine z_itT ?_ | refine z_itS ?_ | refine z_itgL ?_ | refine z_itgT ?_ | refine z_call ?_ | refine z_cw (by with_unfolding_all rfl) (by simp only [List.map_nil, List.append_nil]; rfl) ?_ | refine z_back (by with_unfolding_all rfl) (by simp only [giveA, List.length_cons, List.length_nil, List.take_succ_cons, List.take_zero, List.getElem?_cons_zero, List.getElem?_cons_succ, List.set_cons_zero, List.set_cons_succ]; with_unfolding_all rfl) ?_ | refine z_fin (by with_unfolding_all rfl) ?_)
    refine optW_ixS (by decide) h2 h3 fun x _ => ?_
    exact ⟨c, s, l ++ [⟨#[x]⟩], rfl, by simp, by simpa [or_imp, forall_and] using ⟨hl1, rfl⟩, by simp at hl2 ⊢; omega⟩
  · rintro acc g ⟨c, s, l, rfl, rfl, hl1, hl2⟩
    simp at hl2
    obtain ⟨z, e, hz⟩ := join_one (s := "") hl1 (by omega) rfl
    rw [e]
    have hz5 : z.length ≤ 5 := by omega
    have hz1 : 1 ≤ z.length := by omega
    repeat (with_reducible first | refine z_lenOk (by with_unfolding_all rfl) ?_ | refine Eq.mpr optW_some ?_ | refine Eq.mpr fw_ok ?_ | refine Eq.mpr wp_seq ?_ | refine Eq.mpr wp_asg ?_ | refine Eq.mpr wp_retM ?_ | refine Eq.mpr wp_tst ?_ | refine Eq.mpr wp_op ?_ | refine Eq.mpr wp_cons ?_ | refine Eq.mpr wp_d ?_ | refine Eq.mpr wp_ret ?_ | refine Eq.mpr wp_valA ?_ | refine Eq.mpr wp_bd ?_ | refine Eq.mpr wp_andV ?_ | refine Eq.mpr wp_orV ?_ | refine Eq.mpr wp_notV ?_ | refine Eq.mpr wp_notZ ?_ | refine Eq.mpr wp_andZ ?_ | refine Eq.mpr wp_orZ ?_ | refine Eq.mpr wp_lst ?_ | refine Eq.mpr wp_tup ?_ | refine Eq.mpr wp_drop ?_ | refine Eq.mpr wp_bl ?_ | refine Eq.mpr wp_ch ?_ | refine Eq.mpr wp_slLh ?_ | refine Eq.mpr wp_up ?_ | refine Eq.mpr wp_join ?_ | refine Eq.mpr wp_comp ?_ | refine Eq.mpr wp_vw ?_ | refine Eq.mpr wp_opt ?_ | refine z_rd (by with_unfolding_all rfl) ?_ | refine z_pk (by with_unfolding_all rfl) ?_ | refine z_mv (by with_unfolding_all rfl) (by simp only [restG, wipeG, List.set_cons_zero, List.set_cons_succ, List.getElem?_cons_zero, List.getElem?_cons_succ, Option.getD_some]; with_unfolding_all rfl) ?_ | refine z_fz (by with_unfolding_all rfl) ?_ | refine z_fzL (by with_unfolding_all rfl) (by with_unfolding_all rfl) (by simp only [restG, wipeG, List.set_cons_zero, List.set_cons_succ, List.getElem?_cons_zero, List.getElem?_cons_succ, Option.getD_some]; with_unfolding_all rfl) ?_ | refine z_set (by simp only [restG, wipeG, List.set_cons_zero, List.set_cons_succ, List.getElem?_cons_zero, List.getElem?_cons_succ, Option.getD_some]; with_unfolding_all rfl) ?_ | refine z_sl (by with_unfolding_all rfl) ?_ | refine z_addI ?_ | refine z_subI ?_ | refine z_mulI (by first | exact mulC_l | exact mulC_r) ?_ | refine z_divI (by omega) (by omega) ?_ | refine z_modI (by omega) ?_ | refine z_powI (by with_unfolding_all rfl) ?_ | refine z_negI ?_ | refine z_ltI ?_ | refine z_leI ?_ | refine z_gtI ?_ | refine z_geI ?_ | refine z_maxI ?_ | refine z_minI ?_ | refine z_eqI ?_ | refine z_eqB ?_ | refine Eq.mpr wp_isi ?_ | refine z_neI ?_ | refine z_eqS ?_ | refine z_neS ?_ | refine z_lenG ?_ | refine z_lenGT ?_ | refine z_lenL ?_ | refine z_lenT ?_ | refine z_lenO ?_ | refine z_lenS (by omega) ?_ | refine z_slHi (by omega) ?_ | refine z_slLo (by omega) ?_ | refine z_slB (by omega) ?_ | refine z_addS (by with_unfolding_all ((try simp only [len_app]); omega)) ?_ | refine z_itL ?_ | refine z_itT ?_ | refine z_itS ?_ | refine z_itgL ?_ | refine z_itgT ?_ | refine z_call ?_ | refine z_cw (by with_unfolding_all rfl) (by simp only [List.map_nil, List.append_nil]; rfl) ?_ | refine z_back (by with_unfolding_all rfl) (by simp only [giveA, List.length_cons, List.length_nil, List.take_succ_cons, List.take_zero, List.getElem?_cons_zero, List.getElem?_cons_succ, List.set_cons_zero, List.set_cons_succ]; with_unfolding_all rfl) ?_ | refine z_fin (by with_unfolding_all rfl) ?_)
    -- the second statement: perhaps a word of the nineteen
    refine Wp.mono (A := fun fl g => fl = Fl.next ∧ ∃ (c s : Int) (z : Str) (o3 o4 o5 : Option O), z.length ≤ 5 ∧ g = [some (.lst [.d (.int c), .d (.int s)]), some (.d (.str "abcdefghijklmnopqrstuvwxyz")), some (.d (.str z)), o3, o4, o5, none]) (B := fun _ _ => False) ?_ ?_ (fun _ _ z => z.elim)
    · repeat (with_reducible first | refine z_lenOk (by with_unfolding_all rfl) ?_ | refine Eq.mpr optW_some ?_ | refine Eq.mpr fw_ok ?_ | refine Eq.mpr wp_seq ?_ | refine Eq.mpr wp_asg ?_ | refine Eq.mpr wp_retM ?_ | refine Eq.mpr wp_if ?_ | refine Eq.mpr wp_tst ?_ | refine Eq.mpr wp_op ?_ | refine Eq.mpr wp_cons ?_ | refine Eq.mpr wp_d ?_ | refine Eq.mpr wp_ret ?_ | refine Eq.mpr wp_valA ?_ | refine Eq.mpr wp_bd ?_ | refine Eq.mpr wp_andV ?_ | refine Eq.mpr wp_orV ?_ | refine Eq.mpr wp_notV ?_ | refine Eq.mpr wp_notZ ?_ | refine Eq.mpr wp_andZ ?_ | refine Eq.mpr wp_orZ ?_ | refine Eq.mpr wp_lst ?_ | refine Eq.mpr wp_tup ?_ | refine Eq.mpr wp_drop ?_ | refine Eq.mpr wp_bl ?_ | refine Eq.mpr wp_ch ?_ | refine Eq.mpr wp_slLh ?_ | refine Eq.mpr wp_up ?_ | refine Eq.mpr wp_join ?_ | refine Eq.mpr wp_comp ?_ | refine Eq.mpr wp_vw ?_ | refine Eq.mpr wp_opt ?_ | refine z_rd (by with_unfolding_all rfl) ?_ | refine z_pk (by with_unfolding_all rfl) ?_ | refine z_mv (by with_unfolding_all rfl) (by simp only [restG, wipeG, List.set_cons_zero, List.set_cons_succ, List.getElem?_cons_zero, List.getElem?_cons_succ, Option.getD_some]; with_unfolding_all rfl) ?_ | refine z_fz (by with_unfolding_all rfl) ?_ | refine z_fzL (by with_unfolding_all rfl) (by with_unfolding_all rfl) (by simp only [restG, wipeG, List.set_cons_zero, List.set_cons_succ, List.getElem?_cons_zero, List.getElem?_cons_succ, Option.getD_some]; with_unfolding_all rfl) ?_ | refine z_set (by simp only [restG, wipeG, List.set_cons_zero, List.set_cons_succ, List.getElem?_cons_zero, List.getElem?_cons_succ, Option.getD_some]; with_unfolding_all rfl) ?_ | refine z_sl (by with_unfolding_all rfl) ?_ | refine z_addI ?_ | refine z_subI ?_ | refine z_mulI (by first | exact mulC_l | exact mulC_r) ?_ | refine z_divI (by omega) (by omega) ?_ | refine z_modI (by omega) ?_ | refine z_powI (by with_unfolding_all rfl) ?_ | refine z_negI ?_ | refine z_ltI ?_ | refine z_leI ?_ | refine z_gtI ?_ | refine z_geI ?_ | refine z_maxI ?_ | refine z_minI ?_ | refine z_eqI ?_ | refine z_eqB ?_ | refine Eq.mpr wp_isi ?_ | refine z_neI ?_ | refine z_eqS ?_ | refine z_neS ?_ | refine z_lenG ?_ | refine z_lenGT ?_ | refine z_lenL ?_ | refine z_lenT ?_ | refine z_lenO ?_ | refine z_lenS (by omega) ?_ | refine z_slHi (by omega) ?_ | refine z_slLo (by omega) ?_ | refine z_slB (by omega) ?_ | refine z_addS (by with_unfolding_all ((try simp only [len_app]); omega)) ?_ | refine z_itL ?_ | refine z_itT ?_ | refine z_itS ?_ | refine z_itgL ?_ | refine z_itgT ?_ | refine z_call ?_ | refine z_cw (by with_unfolding_all rfl) (by simp only [List.map_nil, List.append_nil]; rfl) ?_ | refine z_back (by with_unfolding_all rfl) (by simp only [giveA, List.length_cons, List.length_nil, List.take_succ_cons, List.take_zero, List.getElem?_cons_zero, List.getElem?_cons_succ, List.set_cons_zero, List.set_cons_succ]; with_unfolding_all rfl) ?_ | refine z_fin (by with_unfolding_all rfl) ?_)
      refine fw_tk ⟨_, _, rfl⟩ (by omega) (by omega) fun m c s h2 h3 => ?_
      repeat (with_reducible first | refine z_lenOk (by with_unfolding_all rfl) ?_ | refine Eq.mpr optW_some ?_ | refine Eq.mpr fw_ok ?_ | refine Eq.mpr wp_seq ?_ | refine Eq.mpr wp_asg ?_ | refine Eq.mpr wp_retM ?_ | refine Eq.mpr wp_if ?_ | refine Eq.mpr wp_tst ?_ | refine Eq.mpr wp_op ?_ | refine Eq.mpr wp_cons ?_ | refine Eq.mpr wp_d ?_ | refine Eq.mpr wp_ret ?_ | refine Eq.mpr wp_valA ?_ | refine Eq.mpr wp_bd ?_ | refine Eq.mpr wp_andV ?_ | refine Eq.mpr wp_orV ?_ | refine Eq.mpr wp_notV ?_ | refine Eq.mpr wp_notZ ?_ | refine Eq.mpr wp_andZ ?_ | refine Eq.mpr wp_orZ ?_ | refine Eq.mpr wp_lst ?_ | refine Eq.mpr wp_tup ?_ | refine Eq.mpr wp_drop ?_ | refine Eq.mpr wp_bl ?_ | refine Eq.mpr wp_ch ?_ | refine Eq.mpr wp_slLh ?_ | refine Eq.mpr wp_up ?_ | refine Eq.mpr wp_join ?_ | refine Eq.mpr wp_comp ?_ | refine Eq.mpr wp_vw ?_ | refine Eq.mpr wp_opt ?_ | refine z_rd (by with_unfolding_all rfl) ?_ | refine z_pk (by with_unfolding_all rfl) ?_ | refine z_mv (by with_unfolding_all rfl) (by simp only [restG, wipeG, List.set_cons_zero, List.set_cons_succ, List.getElem?_cons_zero, List.getElem?_cons_succ, Option.getD_some]; with_unfolding_all rfl) ?_ | refine z_fz (by with_unfolding_all rfl) ?_ | refine z_fzL (by with_unfolding_all rfl) (by with_unfolding_all rfl) (by simp only [restG, wipeG, List.set_cons_zero, List.set_cons_succ, List.getElem?_cons_zero, List.getElem?_cons_succ, Option.getD_some]; with_unfolding_all rfl) ?_ | refine z_set (by simp only [restG, wipeG, List.set_cons_zero, List.set_cons_succ, List.getElem?_cons_zero, List.getElem?_cons_succ, Option.getD_some]; with_unfolding_all rfl) ?_ | refine z_sl (by with_unfolding_all rfl) ?_ | refine z_addI ?_ | refine z_subI ?_ | refine z_mulI (by first | exact mulC_l | exact mulC_r) ?_ | refine z_divI (by omega) (by omega) ?_ | refine z_modI (by omega) ?_ | refine z_powI (by with_unfolding_all rfl) ?_ | refine z_negI ?_ | refine z_ltI ?_ | refine z_leI ?_ | refine z_gtI ?_ | refine z_geI ?_ | refine z_maxI ?_ | refine z_minI ?_ | refine z_eqI ?_ | refine z_eqB ?_ | refine Eq.mpr wp_isi ?_ | refine z_neI ?_ | refine z_eqS ?_ | refine z_neS ?_ | refine z_lenG ?_ | refine z_lenGT ?_ | refine z_lenL ?_ | refine z_lenT ?_ | refine z_lenO ?_ | refine z_lenS (by omega) ?_ | refine z_slHi (by omega) ?_ | refine z_slLo (by omega) ?_ | refine z_slB (by omega) ?_ | refine z_addS (by with_unfolding_all ((try simp only [len_app]); omega)) ?_ | refine z_itL ?_ | refine z_itT ?_ | refine z_itS ?_ | refine z_itgL ?_ | refine z_itgT ?_ | refine z_call ?_ | refine z_cw (by with_unfolding_all rfl) (by simp only [List.map_nil, List.append_nil]; rfl) ?_ | refine z_back (by with_unfolding_all rfl) (by simp only [giveA, List.length_cons, List.length_nil, List.take_succ_cons, List.take_zero, List.getElem?_cons_zero, List.getElem?_cons_succ, List.set_cons_zero, List.set_cons_succ]; with_unfolding_all rfl) ?_ | refine z_fin (by with_unfolding_all rfl) ?_)
      refine z_ite (fun _ => ?_) (fun _ => ?_)
      · repeat (with_reducible first | refine z_lenOk (by with_unfolding_all rfl) ?_ | refine Eq.mpr optW_some ?_ | refine Eq.mpr fw_ok ?_ | refine Eq.mpr wp_seq ?_ | refine Eq.mpr wp_asg ?_ | refine Eq.mpr wp_retM ?_ | refine Eq.mpr wp_if ?_ | refine Eq.mpr wp_tst ?_ | refine Eq.mpr wp_op ?_ | refine Eq.mpr wp_cons ?_ | refine Eq.mpr wp_d ?_ | refine Eq.mpr wp_ret ?_ | refine Eq.mpr wp_valA ?_ | refine Eq.mpr wp_bd ?_ | refine Eq.mpr wp_andV ?_ | refine Eq.mpr wp_orV ?_ | refine Eq.mpr wp_notV ?_ | refine Eq.mpr wp_notZ ?_ | refine Eq.mpr wp_andZ ?_ | refine Eq.mpr wp_orZ ?_ | refine Eq.mpr wp_lst ?_ | refine Eq.mpr wp_tup ?_ | refine Eq.mpr wp_drop ?_ | refine Eq.mpr wp_bl ?_ | refine Eq.mpr wp_ch ?_ | refine Eq.mpr wp_slLh ?_ | refine Eq.mpr wp_up ?_ | refine Eq.mpr wp_join ?_ | refine Eq.mpr wp_comp ?_ | refine Eq.mpr wp_vw ?_ | refine Eq.mpr wp_opt ?_ | refine z_rd (by with_unfolding_all rfl) ?_ | refine z_pk (by with_unfolding_all rfl) ?_ | refine z_mv (by with_unfolding_all rfl) (by simp only [restG, wipeG, List.set_cons_zero, List.set_cons_succ, List.getElem?_cons_zero, List.getElem?_cons_succ, Option.getD_some]; with_unfolding_all rfl) ?_ | refine z_fz (by with_unfolding_all rfl) ?_ | refine z_fzL (by with_unfolding_all rfl) (by with_unfolding_all rfl) (by simp only [restG, wipeG, List.set_cons_zero, List.set_cons_succ, List.getElem?_cons_zero, List.getElem?_cons_succ, Option.getD_some]; with_unfolding_all rfl) ?_ | refine z_set (by simp only [restG, wipeG, List.set_cons_zero, List.set_cons_succ, List.getElem?_cons_zero, List.getElem?_cons_succ, Option.getD_some]; with_unfolding_all rfl) ?_ | refine z_sl (by with_unfolding_all rfl) ?_ | refine z_addI ?_ | refine z_subI ?_ | refine z_mulI (by first | exact mulC_l | exact mulC_r) ?_ | refine z_divI (by omega) (by omega) ?_ | refine z_modI (by omega) ?_ | refine z_powI (by with_unfolding_all rfl) ?_ | refine z_negI ?_ | refine z_ltI ?_ | refine z_leI ?_ | refine z_gtI ?_ | refine z_geI ?_ | refine z_maxI ?_ | refine z_minI ?_ | refine z_eqI ?_ | refine z_eqB ?_ | refine Eq.mpr wp_isi ?_ | refine z_neI ?_ | refine z_eqS ?_ | refine z_neS ?_ | refine z_lenG ?_ | refine z_lenGT ?_ | refine z_lenL ?_ | refine z_lenT ?_ | refine z_lenO ?_ | refine z_lenS (by omega) ?_ | refine z_slHi (by omega) ?_ | refine z_slLo (by omega) ?_ | refine z_slB (by omega) ?_ | refine z_addS (by with_unfolding_all ((try simp only [len_app]); omega)) ?_ | refine z_itL ?_ | refine z_itT ?_ | refine z_itS ?_ | refine z_itgL ?_ | refine z_itgT ?_ | refine z_call ?_ | refine z_cw (by with_unfolding_all rfl) (by simp only [List.map_nil, List.append_nil]; rfl) ?_ | refine z_back (by with_unfolding_all rfl) (by simp only [giveA, List.length_cons, List.length_nil, List.take_succ_cons, List.take_zero, List.getElem?_cons_zero, List.getElem?_cons_succ, List.set_cons_zero, List.set_cons_succ]; with_unfolding_all rfl) ?_ | refine z_fin (by with_unfolding_all rfl) ?_)
        rw [taken_eq]
        repeat (with_reducible first | refine z_lenOk (by with_unfolding_all rfl) ?_ | refine Eq.mpr optW_some ?_ | refine Eq.mpr fw_ok ?_ | refine Eq.mpr wp_seq ?_ | refine Eq.mpr wp_asg ?_ | refine Eq.mpr wp_retM ?_ | refine Eq.mpr wp_if ?_ | refine Eq.mpr wp_tst ?_ | refine Eq.mpr wp_op ?_ | refine Eq.mpr wp_cons ?_ | refine Eq.mpr wp_d ?_ | refine Eq.mpr wp_ret ?_ | refine Eq.mpr wp_valA ?_ | refine Eq.mpr wp_bd ?_ | refine Eq.mpr wp_andV ?_ | refine Eq.mpr wp_orV ?_ | refine Eq.mpr wp_notV ?_ | refine Eq.mpr wp_notZ ?_ | refine Eq.mpr wp_andZ ?_ | refine Eq.mpr wp_orZ ?_ | refine Eq.mpr wp_lst ?_ | refine Eq.mpr wp_tup ?_ | refine Eq.mpr wp_drop ?_ | refine Eq.mpr wp_bl ?_ | refine Eq.mpr wp_ch ?_ | refine Eq.mpr wp_slLh ?_ | refine Eq.mpr wp_up ?_ | refine Eq.mpr wp_join ?_ | refine Eq.mpr wp_comp ?_ | refine Eq.mpr wp_vw ?_ | refine Eq.mpr wp_opt ?_ | refine z_rd (by with_unfolding_all rfl) ?_ | refine z_pk (by with_unfolding_all rfl) ?_ | refine z_mv (by with_unfolding_all rfl) (by simp only [restG, wipeG, List.set_cons_zero, List.set_cons_succ, List.getElem?_cons_zero, List.getElem?_cons_succ, Option.getD_some]; with_unfolding_all rfl) ?_ | refine z_fz (by with_unfolding_all rfl) ?_ | refine z_fzL (by with_unfolding_all rfl) (by with_unfolding_all rfl) (by simp only [restG, wipeG, List.set_cons_zero, List.set_cons_succ, List.getElem?_cons_zero, List.getElem?_cons_succ, Option.getD_some]; with_unfolding_all rfl) ?_ | refine z_set (by simp only [restG, wipeG, List.set_cons_zero, List.set_cons_succ, List.getElem?_cons_zero, List.getElem?_cons_succ, Option.getD_some]; with_unfolding_all rfl) ?_ | refine z_sl (by with_unfolding_all rfl) ?_ | refine z_addI ?_ | refine z_subI ?_ | refine z_mulI (by first | exact mulC_l | exact mulC_r) ?_ | refine z_divI (by omega) (by omega) ?_ | refine z_modI (by omega) ?_ | refine z_powI (by with_unfolding_all rfl) ?_ | refine z_negI ?_ | refine z_ltI ?_ | refine z_leI ?_ | refine z_gtI ?_ | refine z_geI ?_ | refine z_maxI ?_ | refine z_minI ?_ | refine z_eqI ?_ | refine z_eqB ?_ | refine Eq.mpr wp_isi ?_ | refine z_neI ?_ | refine z_eqS ?_ | refine z_neS ?_ | refine z_lenG ?_ | refine z_lenGT ?_ | refine z_lenL ?_ | refine z_lenT ?_ | refine z_lenO ?_ | refine z_lenS (by omega) ?_ | refine z_slHi (by omega) ?_ | refine z_slLo (by omega) ?_ | refine z_slB (by omega) ?_ | refine z_addS (by with_unfolding_all ((try simp only [len_app]); omega)) ?_ | refine z_itL ?_ | refine z_itT ?_ | refine z_itS ?_ | refine z_itgL ?_ | refine z_itgT ?_ | refine z_call ?_ | refine z_cw (by with_unfolding_all rfl) (by simp only [List.map_nil, List.append_nil]; rfl) ?_ | refine z_back (by with_unfolding_all rfl) (by simp only [giveA, List.length_cons, List.length_nil, List.take_succ_cons, List.take_zero, List.getElem?_cons_zero, List.getElem?_cons_succ, List.set_cons_zero, List.set_cons_succ]; with_unfolding_all rfl) ?_ | refine z_fin (by with_unfolding_all rfl) ?_)
        (refine fw_tk ⟨_, _, rfl⟩ (by omega) (by omega) fun r c s h4 h5 => ?_); repeat (with_reducible first | refine z_lenOk (by with_unfolding_all rfl) ?_ | refine Eq.mpr optW_some ?_ | refine Eq.mpr fw_ok ?_ | refine Eq.mpr wp_seq ?_ | refine Eq.mpr wp_asg ?_ | refine Eq.mpr wp_retM ?_ | refine Eq.mpr wp_if ?_ | refine Eq.mpr wp_tst ?_ | refine Eq.mpr wp_op ?_ | refine Eq.mpr wp_cons ?_ | refine Eq.mpr wp_d ?_ | refine Eq.mpr wp_ret ?_ | refine Eq.mpr wp_valA ?_ | refine Eq.mpr wp_bd ?_ | refine Eq.mpr wp_andV ?_ | refine Eq.mpr wp_orV ?_ | refine Eq.mpr wp_notV ?_ | refine Eq.mpr wp_notZ ?_ | refine Eq.mpr wp_andZ ?_ | refine Eq.mpr wp_orZ ?_ | refine Eq.mpr wp_lst ?_ | refine Eq.mpr wp_tup ?_ | refine Eq.mpr wp_drop ?_ | refine Eq.mpr wp_bl ?_ | refine Eq.mpr wp_ch ?_ | refine Eq.mpr wp_slLh ?_ | refine Eq.mpr wp_up ?_ | refine Eq.mpr wp_join ?_ | refine Eq.mpr wp_comp ?_ | refine Eq.mpr wp_vw ?_ | refine Eq.mpr wp_opt ?_ | refine z_rd (by with_unfolding_all rfl) ?_ | refine z_pk (by with_unfolding_all rfl) ?_ | refine z_mv (by with_unfolding_all rfl) (by simp only [restG, wipeG, List.set_cons_zero, List.set_cons_succ, List.getElem?_cons_zero, List.getElem?_cons_succ, Option.getD_some]; with_unfolding_all rfl) ?_ | refine z_fz (by with_unfolding_all rfl) ?_ | refine z_fzL (by with_unfolding_all rfl) (by with_unfolding_all rfl) (by simp only [restG, wipeG, List.set_cons_zero, List.set_cons_succ, List.getElem?_cons_zero, List.getElem?_cons_succ, Option.getD_some]; with_unfolding_all rfl) ?_ | refine z_set (by simp only [restG, wipeG, List.set_cons_zero, List.set_cons_succ, List.getElem?_cons_zero, List.getElem?_cons_succ, Option.getD_some]; with_unfolding_all rfl) ?_ | refine z_sl (by with_unfolding_all rfl) ?_ | refine z_addI ?_ | refine z_subI ?_ | refine z_mulI (by first | exact mulC_l | exact mulC_r) ?_ | refine z_divI (by omega) (by omega) ?_ | refine z_modI (by omega) ?_ | refine z_powI (by with_unfolding_all rfl) ?_ | refine z_negI ?_ | refine z_ltI ?_ | refine z_leI ?_ | refine z_gtI ?_ | refine z_geI ?_ | refine z_maxI ?_ | refine z_minI ?_ | refine z_eqI ?_ | refine z_eqB ?_ | refine Eq.mpr wp_isi ?_ | refine z_neI ?_ | refine z_eqS ?_ | refine z_neS ?_ | refine z_lenG ?_ | refine z_lenGT ?_ | refine z_lenL ?_ | refine z_lenT ?_ | refine z_lenO ?_ | refine z_lenS (by omega) ?_ | refine z_slHi (by omega) ?_ | refine z_slLo (by omega) ?_ | refine z_slB (by omega) ?_ | refine z_addS (by with_unfolding_all ((try simp only [len_app]); omega)) ?_ | refine z_itL ?_ | refine z_itT ?_ | refine z_itS ?_ | refine z_itgL ?_ | refine z_itgT ?_ | refine z_call ?_ | refine z_cw (by with_unfolding_all rfl) (by simp only [List.map_nil, List.append_nil]; rfl) ?_ | refine z_back (by with_unfolding_all rfl) (by simp only [giveA, List.length_cons, List.length_nil, List.take_succ_cons, List.take_zero, List.getElem?_cons_zero, List.getElem?_cons_succ, List.set_cons_zero, List.set_cons_succ]; with_unfolding_all rfl) ?_ | refine z_fin (by with_unfolding_all rfl) ?_)
        refine optW_ix (asLT_d (allD_map _)) h4 h5 fun x hx => ?_
        obtain ⟨w, rfl, hw⟩ := taken_len x hx
        repeat (with_reducible first | refine z_lenOk (by with_unfolding_all rfl) ?_ | refine Eq.mpr optW_some ?_ | refine Eq.mpr fw_ok ?_ | refine Eq.mpr wp_seq ?_ | refine Eq.mpr wp_asg ?_ | refine Eq.mpr wp_retM ?_ | refine Eq.mpr wp_if ?_ | refine Eq.mpr wp_tst ?_ | refine Eq.mpr wp_op ?_ | refine Eq.mpr wp_cons ?_ | refine Eq.mpr wp_d ?_ | refine Eq.mpr wp_ret ?_ | refine Eq.mpr wp_valA ?_ | refine Eq.mpr wp_bd ?_ | refine Eq.mpr wp_andV ?_ | refine Eq.mpr wp_orV ?_ | refine Eq.mpr wp_notV ?_ | refine Eq.mpr wp_notZ ?_ | refine Eq.mpr wp_andZ ?_ | refine Eq.mpr wp_orZ ?_ | refine Eq.mpr wp_lst ?_ | refine Eq.mpr wp_tup ?_ | refine Eq.mpr wp_drop ?_ | refine Eq.mpr wp_bl ?_ | refine Eq.mpr wp_ch ?_ | refine Eq.mpr wp_slLh ?_ | refine Eq.mpr wp_up ?_ | refine Eq.mpr wp_join ?_ | refine Eq.mpr wp_comp ?_ | refine Eq.mpr wp_vw ?_ | refine Eq.mpr wp_opt ?_ | refine z_rd (by with_unfolding_all rfl) ?_ | refine z_pk (by with_unfolding_all rfl) ?_ | refine z_mv (by with_unfolding_all rfl) (by simp only [restG, wipeG, List.set_cons_zero, List.set_cons_succ, List.getElem?_cons_zero, List.getElem?_cons_succ, Option.getD_some]; with_unfolding_all rfl) ?_ | refine z_fz (by with_unfolding_all rfl) ?_ | refine z_fzL (by with_unfolding_all rfl) (by with_unfolding_all rfl) (by simp only [restG, wipeG, List.set_cons_zero, List.set_cons_succ, List.getElem?_cons_zero, List.getElem?_cons_succ, Option.getD_some]; with_unfolding_all rfl) ?_ | refine z_set (by simp only [restG, wipeG, List.set_cons_zero, List.set_cons_succ, List.getElem?_cons_zero, List.getElem?_cons_succ, Option.getD_some]; with_unfolding_all rfl) ?_ | refine z_sl (by with_unfolding_all rfl) ?_ | refine z_addI ?_ | refine z_subI ?_ | refine z_mulI (by first | exact mulC_l | exact mulC_r) ?_ | refine z_divI (by omega) (by omega) ?_ | refine z_modI (by omega) ?_ | refine z_powI (by with_unfolding_all rfl) ?_ | refine z_negI ?_ | refine z_ltI ?_ | refine z_leI ?_ | refine z_gtI ?_ | refine z_geI ?_ | refine z_maxI ?_ | refine z_minI ?_ | refine z_eqI ?_ | refine z_eqB ?_ | refine Eq.mpr wp_isi ?_ | refine z_neI ?_ | refine z_eqS ?_ | refine z_neS ?_ | refine z_lenG ?_ | refine z_lenGT ?_ | refine z_lenL ?_ | refine z_lenT ?_ | refine z_lenO ?_ | refine z_lenS (by omega) ?_ | refine z_slHi (by omega) ?_ | refine z_slLo (by omega) ?_ | refine z_slB (by omega) ?_ | refine z_addS (by with_unfolding_all ((try simp only [len_app]); omega)) ?_ | refine z_itL ?_ | refine z_itT ?_ | refine z_itS ?_ | refine z_itgL ?_ | refine z_itgT ?_ | refine z_call ?_ | refine z_cw (by with_unfolding_all rfl) (by simp only [List.map_nil, List.append_nil]; rfl) ?_ | refine z_back (by with_unfolding_all rfl) (by simp only [giveA, List.length_cons, List.length_nil, List.take_succ_cons, List.take_zero, List.getElem?_cons_zero, List.getElem?_cons_succ, List.set_cons_zero, List.set_cons_succ]; with_unfolding_all rfl) ?_ | refine z_fin (by with_unfolding_all rfl) ?_)
        (refine fw_tk ⟨_, _, rfl⟩ (by omega) (by omega) fun at1 c s h6 h7 => ?_); repeat (with_reducible first | refine z_lenOk (by with_unfolding_all rfl) ?_ | refine Eq.mpr optW_some ?_ | refine Eq.mpr fw_ok ?_ | refine Eq.mpr wp_seq ?_ | refine Eq.mpr wp_asg ?_ | refine Eq.mpr wp_retM ?_ | refine Eq.mpr wp_if ?_ | refine Eq.mpr wp_tst ?_ | refine Eq.mpr wp_op ?_ | refine Eq.mpr wp_cons ?_ | refine Eq.mpr wp_d ?_ | refine Eq.mpr wp_ret ?_ | refine Eq.mpr wp_valA ?_ | refine Eq.mpr wp_bd ?_ | refine Eq.mpr wp_andV ?_ | refine Eq.mpr wp_orV ?_ | refine Eq.mpr wp_notV ?_ | refine Eq.mpr wp_notZ ?_ | refine Eq.mpr wp_andZ ?_ | refine Eq.mpr wp_orZ ?_ | refine Eq.mpr wp_lst ?_ | refine Eq.mpr wp_tup ?_ | refine Eq.mpr wp_drop ?_ | refine Eq.mpr wp_bl ?_ | refine Eq.mpr wp_ch ?_ | refine Eq.mpr wp_slLh ?_ | refine Eq.mpr wp_up ?_ | refine Eq.mpr wp_join ?_ | refine Eq.mpr wp_comp ?_ | refine Eq.mpr wp_vw ?_ | refine Eq.mpr wp_opt ?_ | refine z_rd (by with_unfolding_all rfl) ?_ | refine z_pk (by with_unfolding_all rfl) ?_ | refine z_mv (by with_unfolding_all rfl) (by simp only [restG, wipeG, List.set_cons_zero, List.set_cons_succ, List.getElem?_cons_zero, List.getElem?_cons_succ, Option.getD_some]; with_unfolding_all rfl) ?_ | refine z_fz (by with_unfolding_all rfl) ?_ | refine z_fzL (by with_unfolding_all rfl) (by with_unfolding_all rfl) (by simp only [restG, wipeG, List.set_cons_zero, List.set_cons_succ, List.getElem?_cons_zero, List.getElem?_cons_succ, Option.getD_some]; with_unfolding_all rfl) ?_ | refine z_set (by simp only [restG, wipeG, List.set_cons_zero, List.set_cons_succ, List.getElem?_cons_zero, List.getElem?_cons_succ, Option.getD_some]; with_unfolding_all rfl) ?_ | refine z_sl (by with_unfolding_all rfl) ?_ | refine z_addI ?_ | refine z_subI ?_ | refine z_mulI (by first | exact mulC_l | exact mulC_r) ?_ | refine z_divI (by omega) (by omega) ?_ | refine z_modI (by omega) ?_ | refine z_powI (by with_unfolding_all rfl) ?_ | refine z_negI ?_ | refine z_ltI ?_ | refine z_leI ?_ | refine z_gtI ?_ | refine z_geI ?_ | refine z_maxI ?_ | refine z_minI ?_ | refine z_eqI ?_ | refine z_eqB ?_ | refine Eq.mpr wp_isi ?_ | refine z_neI ?_ | refine z_eqS ?_ | refine z_neS ?_ | refine z_lenG ?_ | refine z_lenGT ?_ | refine z_lenL ?_ | refine z_lenT ?_ | refine z_lenO ?_ | refine z_lenS (by omega) ?_ | refine z_slHi (by omega) ?_ | refine z_slLo (by omega) ?_ | refine z_slB (by omega) ?_ | refine z_addS (by with_unfolding_all ((try simp only [len_app]); omega)) ?_ | refine z_itL ?_ | refine z_itT ?_ | refine z_itS ?_ | refine z_itgL ?_ | refine z_itgT ?_ | refine z_call ?_ | refine z_cw (by with_unfolding_all rfl) (by simp only [List.map_nil, List.append_nil]; rfl) ?_ | refine z_back (by with_unfolding_all rfl) (by simp only [giveA, List.length_cons, List.length_nil, List.take_succ_cons, List.take_zero, List.getElem?_cons_zero, List.getElem?_cons_succ, List.set_cons_zero, List.set_cons_succ]; with_unfolding_all rfl) ?_ | refine z_fin (by with_unfolding_all rfl) ?_)
        have l1 := len_cut w none (some at1)
        have l2 := len_cut w (some at1) none
        have l3 := len_cut w (some (at1 + 1)) none
        repeat (with_reducible first | refine z_lenOk (by with_unfolding_all rfl) ?_ | refine Eq.mpr optW_some ?_ | refine Eq.mpr fw_ok ?_ | refine Eq.mpr wp_seq ?_ | refine Eq.mpr wp_asg ?_ | refine Eq.mpr wp_retM ?_ | refine Eq.mpr wp_if ?_ | refine Eq.mpr wp_tst ?_ | refine Eq.mpr wp_op ?_ | refine Eq.mpr wp_cons ?_ | refine Eq.mpr wp_d ?_ | refine Eq.mpr wp_ret ?_ | refine Eq.mpr wp_valA ?_ | refine Eq.mpr wp_bd ?_ | refine Eq.mpr wp_andV ?_ | refine Eq.mpr wp_orV ?_ | refine Eq.mpr wp_notV ?_ | refine Eq.mpr wp_notZ ?_ | refine Eq.mpr wp_andZ ?_ | refine Eq.mpr wp_orZ ?_ | refine Eq.mpr wp_lst ?_ | refine Eq.mpr wp_tup ?_ | refine Eq.mpr wp_drop ?_ | refine Eq.mpr wp_bl ?_ | refine Eq.mpr wp_ch ?_ | refine Eq.mpr wp_slLh ?_ | refine Eq.mpr wp_up ?_ | refine Eq.mpr wp_join ?_ | refine Eq.mpr wp_comp ?_ | refine Eq.mpr wp_vw ?_ | refine Eq.mpr wp_opt ?_ | refine z_rd (by with_unfolding_all rfl) ?_ | refine z_pk (by with_unfolding_all rfl) ?_ | refine z_mv (by with_unfolding_all rfl) (by simp only [restG, wipeG, List.set_cons_zero, List.set_cons_succ, List.getElem?_cons_zero, List.getElem?_cons_succ, Option.getD_some]; with_unfolding_all rfl) ?_ | refine z_fz (by with_unfolding_all rfl) ?_ | refine z_fzL (by with_unfolding_all rfl) (by with_unfolding_all rfl) (by simp only [restG, wipeG, List.set_cons_zero, List.set_cons_succ, List.getElem?_cons_zero, List.getElem?_cons_succ, Option.getD_some]; with_unfolding_all rfl) ?_ | refine z_set (by simp only [restG, wipeG, List.set_cons_zero, List.set_cons_succ, List.getElem?_cons_zero, List.getElem?_cons_succ, Option.getD_some]; with_unfolding_all rfl) ?_ | refine z_sl (by with_unfolding_all rfl) ?_ | refine z_addI ?_ | refine z_subI ?_ | refine z_mulI (by first | exact mulC_l | exact mulC_r) ?_ | refine z_divI (by omega) (by omega) ?_ | refine z_modI (by omega) ?_ | refine z_powI (by with_unfolding_all rfl) ?_ | refine z_negI ?_ | refine z_ltI ?_ | refine z_leI ?_ | refine z_gtI ?_ | refine z_geI ?_ | refine z_maxI ?_ | refine z_minI ?_ | refine z_eqI ?_ | refine z_eqB ?_ | refine Eq.mpr wp_isi ?_ | refine z_neI ?_ | refine z_eqS ?_ | refine z_neS ?_ | refine z_lenG ?_ | refine z_lenGT ?_ | refine z_lenL ?_ | refine z_lenT ?_ | refine z_lenO ?_ | refine z_lenS (by omega) ?_ | refine z_slHi (by omega) ?_ | refine z_slLo (by omega) ?_ | refine z_slB (by omega) ?_ | refine z_addS (by with_unfolding_all ((try simp only [len_app]); omega)) ?_ | refine z_itL ?_ | refine z_itT ?_ | refine z_itS ?_ | refine z_itgL ?_ | refine z_itgT ?_ | refine z_call ?_ | refine z_cw (by with_unfolding_all rfl) (by simp only [List.map_nil, List.append_nil]; rfl) ?_ | refine z_back (by with_unfolding_all rfl) (by simp only [giveA, List.length_cons, List.length_nil, List.take_succ_cons, List.take_zero, List.getElem?_cons_zero, List.getElem?_cons_succ, List.set_cons_zero, List.set_cons_succ]; with_unfolding_all rfl) ?_ | refine z_fin (by with_unfolding_all rfl) ?_)
        refine optW_ixS (by omega) (by decide) (by omega) fun q _ => ?_
        have l4 : (⟨#[q]⟩ : Str).length = 1 := rfl
        repeat (with_reducible first | refine z_lenOk (by with_unfolding_all rfl) ?_ | refine Eq.mpr optW_some ?_ | refine Eq.mpr fw_ok ?_ | refine Eq.mpr wp_seq ?_ | refine Eq.mpr wp_asg ?_ | refine Eq.mpr wp_retM ?_ | refine Eq.mpr wp_if ?_ | refine Eq.mpr wp_tst ?_ | refine Eq.mpr wp_op ?_ | refine Eq.mpr wp_cons ?_ | refine Eq.mpr wp_d ?_ | refine Eq.mpr wp_ret ?_ | refine Eq.mpr wp_valA ?_ | refine Eq.mpr wp_bd ?_ | refine Eq.mpr wp_andV ?_ | refine Eq.mpr wp_orV ?_ | refine Eq.mpr wp_notV ?_ | refine Eq.mpr wp_notZ ?_ | refine Eq.mpr wp_andZ ?_ | refine Eq.mpr wp_orZ ?_ | refine Eq.mpr wp_lst ?_ | refine Eq.mpr wp_tup ?_ | refine Eq.mpr wp_drop ?_ | refine Eq.mpr wp_bl ?_ | refine Eq.mpr wp_ch ?_ | refine Eq.mpr wp_slLh ?_ | refine Eq.mpr wp_up ?_ | refine Eq.mpr wp_join ?_ | refine Eq.mpr wp_comp ?_ | refine Eq.mpr wp_vw ?_ | refine Eq.mpr wp_opt ?_ | refine z_rd (by with_unfolding_all rfl) ?_ | refine z_pk (by with_unfolding_all rfl) ?_ | refine z_mv (by with_unfolding_all rfl) (by simp only [restG, wipeG, List.set_cons_zero, List.set_cons_succ, List.getElem?_cons_zero, List.getElem?_cons_succ, Option.getD_some]; with_unfolding_all rfl) ?_ | refine z_fz (by with_unfolding_all rfl) ?_ | refine z_fzL (by with_unfolding_all rfl) (by with_unfolding_all rfl) (by simp only [restG, wipeG, List.set_cons_zero, List.set_cons_succ, List.getElem?_cons_zero, List.getElem?_cons_succ, Option.getD_some]; with_unfolding_all rfl) ?_ | refine z_set (by simp only [restG, wipeG, List.set_cons_zero, List.set_cons_succ, List.getElem?_cons_zero, List.getElem?_cons_succ, Option.getD_some]; with_unfolding_all rfl) ?_ | refine z_sl (by with_unfolding_all rfl) ?_ | refine z_addI ?_ | refine z_subI ?_ | refine z_mulI (by first | exact mulC_l | exact mulC_r) ?_ | refine z_divI (by omega) (by omega) ?_ | refine z_modI (by omega) ?_ | refine z_powI (by with_unfolding_all rfl) ?_ | refine z_negI ?_ | refine z_ltI ?_ | refine z_leI ?_ | refine z_gtI ?_ | refine z_geI ?_ | refine z_maxI ?_ | refine z_minI ?_ | refine z_eqI ?_ | refine z_eqB ?_ | refine Eq.mpr wp_isi ?_ | refine z_neI ?_ | refine z_eqS ?_ | refine z_neS ?_ | refine z_lenG ?_ | refine z_lenGT ?_ | refine z_lenL ?_ | refine z_lenT ?_ | refine z_lenO ?_ | refine z_lenS (by omega) ?_ | refine z_slHi (by omega) ?_ | refine z_slLo (by omega) ?_ | refine z_slB (by omega) ?_ | refine z_addS (by with_unfolding_all ((try simp only [len_app]); omega)) ?_ | refine z_itL ?_ | refine z_itT ?_ | refine z_itS ?_ | refine z_itgL ?_ | refine z_itgT ?_ | refine z_call ?_ | refine z_cw (by with_unfolding_all rfl) (by simp only [List.map_nil, List.append_nil]; rfl) ?_ | refine z_back (by with_unfolding_all rfl) (by simp only [giveA, List.length_cons, List.length_nil, List.take_succ_cons, List.take_zero, List.getElem?_cons_zero, List.getElem?_cons_succ, List.set_cons_zero, List.set_cons_succ]; with_unfolding_all rfl) ?_ | refine z_fin (by with_unfolding_all rfl) ?_)
        refine optW_ixS (by omega) (by decide) (by omega) fun q2 _ => ?_
        have l5 : (⟨#[q2]⟩ : Str).length = 1 := rfl
        repeat (with_reducible first | refine z_lenOk (by with_unfolding_all rfl) ?_ | refine Eq.mpr optW_some ?_ | refine Eq.mpr fw_ok ?_ | refine Eq.mpr wp_seq ?_ | refine Eq.mpr wp_asg ?_ | refine Eq.mpr wp_retM ?_ | refine Eq.mpr wp_if ?_ | refine Eq.mpr wp_tst ?_ | refine Eq.mpr wp_op ?_ | refine Eq.mpr wp_cons ?_ | refine Eq.mpr wp_d ?_ | refine Eq.mpr wp_ret ?_ | refine Eq.mpr wp_valA ?_ | refine Eq.mpr wp_bd ?_ | refine Eq.mpr wp_andV ?_ | refine Eq.mpr wp_orV ?_ | refine Eq.mpr wp_notV ?_ | refine Eq.mpr wp_notZ ?_ | refine Eq.mpr wp_andZ ?_ | refine Eq.mpr wp_orZ ?_ | refine Eq.mpr wp_lst ?_ | refine Eq.mpr wp_tup ?_ | refine Eq.mpr wp_drop ?_ | refine Eq.mpr wp_bl ?_ | refine Eq.mpr wp_ch ?_ | refine Eq.mpr wp_slLh ?_ | refine Eq.mpr wp_up ?_ | refine Eq.mpr wp_join ?_ | refine Eq.mpr wp_comp ?_ | refine Eq.mpr wp_vw ?_ | refine Eq.mpr wp_opt ?_ | refine z_rd (by with_unfolding_all rfl) ?_ | refine z_pk (by with_unfolding_all rfl) ?_ | refine z_mv (by with_unfolding_all rfl) (by simp only [restG, wipeG, List.set_cons_zero, List.set_cons_succ, List.getElem?_cons_zero, List.getElem?_cons_succ, Option.getD_some]; with_unfolding_all rfl) ?_ | refine z_fz (by with_unfolding_all rfl) ?_ | refine z_fzL (by with_unfolding_all rfl) (by with_unfolding_all rfl) (by simp only [restG, wipeG, List.set_cons_zero, List.set_cons_succ, List.getElem?_cons_zero, List.getElem?_cons_succ, Option.getD_some]; with_unfolding_all rfl) ?_ | refine z_set (by simp only [restG, wipeG, List.set_cons_zero, List.set_cons_succ, List.getElem?_cons_zero, List.getElem?_cons_succ, Option.getD_some]; with_unfolding_all rfl) ?_ | refine z_sl (by with_unfolding_all rfl) ?_ | refine z_addI ?_ | refine z_subI ?_ | refine z_mulI (by first | exact mulC_l | exact mulC_r) ?_ | refine z_divI (by omega) (by omega) ?_ | refine z_modI (by omega) ?_ | refine z_powI (by with_unfolding_all rfl) ?_ | refine z_negI ?_ | refine z_ltI ?_ | refine z_leI ?_ | refine z_gtI ?_ | refine z_geI ?_ | refine z_maxI ?_ | refine z_minI ?_ | refine z_eqI ?_ | refine z_eqB ?_ | refine Eq.mpr wp_isi ?_ | refine z_neI ?_ | refine z_eqS ?_ | refine z_neS ?_ | refine z_lenG ?_ | refine z_lenGT ?_ | refine z_lenL ?_ | refine z_lenT ?_ | refine z_lenO ?_ | refine z_lenS (by omega) ?_ | refine z_slHi (by omega) ?_ | refine z_slLo (by omega) ?_ | refine z_slB (by omega) ?_ | refine z_addS (by with_unfolding_all ((try simp only [len_app]); omega)) ?_ | refine z_itL ?_ | refine z_itT ?_ | refine z_itS ?_ | refine z_itgL ?_ | refine z_itgT ?_ | refine z_call ?_ | refine z_cw (by with_unfolding_all rfl) (by simp only [List.map_nil, List.append_nil]; rfl) ?_ | refine z_back (by with_unfolding_all rfl) (by simp only [giveA, List.length_cons, List.length_nil, List.take_succ_cons, List.take_zero, List.getElem?_cons_zero, List.getElem?_cons_succ, List.set_cons_zero, List.set_cons_succ]; with_unfolding_all rfl) ?_ | refine z_fin (by with_unfolding_all rfl) ?_)
        (refine fw_tk ⟨_, _, rfl⟩ (by omega) (by omega) fun r c s h8 h9 => ?_); repeat (with_reducible first | refine z_lenOk (by with_unfolding_all rfl) ?_ | refine Eq.mpr optW_some ?_ | refine Eq.mpr fw_ok ?_ | refine Eq.mpr wp_seq ?_ | refine Eq.mpr wp_asg ?_ | refine Eq.mpr wp_retM ?_ | refine Eq.mpr wp_if ?_ | refine Eq.mpr wp_tst ?_ | refine Eq.mpr wp_op ?_ | refine Eq.mpr wp_cons ?_ | refine Eq.mpr wp_d ?_ | refine Eq.mpr wp_ret ?_ | refine Eq.mpr wp_valA ?_ | refine Eq.mpr wp_bd ?_ | refine Eq.mpr wp_andV ?_ | refine Eq.mpr wp_orV ?_ | refine Eq.mpr wp_notV ?_ | refine Eq.mpr wp_notZ ?_ | refine Eq.mpr wp_andZ ?_ | refine Eq.mpr wp_orZ ?_ | refine Eq.mpr wp_lst ?_ | refine Eq.mpr wp_tup ?_ | refine Eq.mpr wp_drop ?_ | refine Eq.mpr wp_bl ?_ | refine Eq.mpr wp_ch ?_ | refine Eq.mpr wp_slLh ?_ | refine Eq.mpr wp_up ?_ | refine Eq.mpr wp_join ?_ | refine Eq.mpr wp_comp ?_ | refine Eq.mpr wp_vw ?_ | refine Eq.mpr wp_opt ?_ | refine z_rd (by with_unfolding_all rfl) ?_ | refine z_pk (by with_unfolding_all rfl) ?_ | refine z_mv (by with_unfolding_all rfl) (by simp only [restG, wipeG, List.set_cons_zero, List.set_cons_succ, List.getElem?_cons_zero, List.getElem?_cons_succ, Option.getD_some]; with_unfolding_all rfl) ?_ | refine z_fz (by with_unfolding_all rfl) ?_ | refine z_fzL (by with_unfolding_all rfl) (by with_unfolding_all rfl) (by simp only [restG, wipeG, List.set_cons_zero, List.set_cons_succ, List.getElem?_cons_zero, List.getElem?_cons_succ, Option.getD_some]; with_unfolding_all rfl) ?_ | refine z_set (by simp only [restG, wipeG, List.set_cons_zero, List.set_cons_succ, List.getElem?_cons_zero, List.getElem?_cons_succ, Option.getD_some]; with_unfolding_all rfl) ?_ | refine z_sl (by with_unfolding_all rfl) ?_ | refine z_addI ?_ | refine z_subI ?_ | refine z_mulI (by first | exact mulC_l | exact mulC_r) ?_ | refine z_divI (by omega) (by omega) ?_ | refine z_modI (by omega) ?_ | refine z_powI (by with_unfolding_all rfl) ?_ | refine z_negI ?_ | refine z_ltI ?_ | refine z_leI ?_ | refine z_gtI ?_ | refine z_geI ?_ | refine z_maxI ?_ | refine z_minI ?_ | refine z_eqI ?_ | refine z_eqB ?_ | refine Eq.mpr wp_isi ?_ | refine z_neI ?_ | refine z_eqS ?_ | refine z_neS ?_ | refine z_lenG ?_ | refine z_lenGT ?_ | refine z_lenL ?_ | refine z_lenT ?_ | refine z_lenO ?_ | refine z_lenS (by omega) ?_ | refine z_slHi (by omega) ?_ | refine z_slLo (by omega) ?_ | refine z_slB (by omega) ?_ | refine z_addS (by with_unfolding_all ((try simp only [len_app]); omega)) ?_ | refine z_itL ?_ | refine z_itT ?_ | refine z_itS ?_ | refine z_itgL ?_ | refine z_itgT ?_ | refine z_call ?_ | refine z_cw (by with_unfolding_all rfl) (by simp only [List.map_nil, List.append_nil]; rfl) ?_ | refine z_back (by with_unfolding_all rfl) (by simp only [giveA, List.length_cons, List.length_nil, List.take_succ_cons, List.take_zero, List.getElem?_cons_zero, List.getElem?_cons_succ, List.set_cons_zero, List.set_cons_succ]; with_unfolding_all rfl) ?_ | refine z_fin (by with_unfolding_all rfl) ?_)
        refine optW_ix rfl h8 h9 fun x hx => ?_
        have hx' : ∃ y : Str, x = .str y ∧ y.length ≤ 30 := by
          simp only [List.mem_cons, List.not_mem_nil, or_false] at hx
          rcases hx with h | h | h <;> exact ⟨_, h, by simp only [len_app]; omega⟩
        obtain ⟨y, rfl, hy⟩ := hx'
        repeat (with_reducible first | refine z_lenOk (by with_unfolding_all rfl) ?_ | refine Eq.mpr optW_some ?_ | refine Eq.mpr fw_ok ?_ | refine Eq.mpr wp_seq ?_ | refine Eq.mpr wp_asg ?_ | refine Eq.mpr wp_retM ?_ | refine Eq.mpr wp_if ?_ | refine Eq.mpr wp_tst ?_ | refine Eq.mpr wp_op ?_ | refine Eq.mpr wp_cons ?_ | refine Eq.mpr wp_d ?_ | refine Eq.mpr wp_ret ?_ | refine Eq.mpr wp_valA ?_ | refine Eq.mpr wp_bd ?_ | refine Eq.mpr wp_andV ?_ | refine Eq.mpr wp_orV ?_ | refine Eq.mpr wp_notV ?_ | refine Eq.mpr wp_notZ ?_ | refine Eq.mpr wp_andZ ?_ | refine Eq.mpr wp_orZ ?_ | refine Eq.mpr wp_lst ?_ | refine Eq.mpr wp_tup ?_ | refine Eq.mpr wp_drop ?_ | refine Eq.mpr wp_bl ?_ | refine Eq.mpr wp_ch ?_ | refine Eq.mpr wp_slLh ?_ | refine Eq.mpr wp_up ?_ | refine Eq.mpr wp_join ?_ | refine Eq.mpr wp_comp ?_ | refine Eq.mpr wp_vw ?_ | refine Eq.mpr wp_opt ?_ | refine z_rd (by with_unfolding_all rfl) ?_ | refine z_pk (by with_unfolding_all rfl) ?_ | refine z_mv (by with_unfolding_all rfl) (by simp only [restG, wipeG, List.set_cons_zero, List.set_cons_succ, List.getElem?_cons_zero, List.getElem?_cons_succ, Option.getD_some]; with_unfolding_all rfl) ?_ | refine z_fz (by with_unfolding_all rfl) ?_ | refine z_fzL (by with_unfolding_all rfl) (by with_unfolding_all rfl) (by simp only [restG, wipeG, List.set_cons_zero, List.set_cons_succ, List.getElem?_cons_zero, List.getElem?_cons_succ, Option.getD_some]; with_unfolding_all rfl) ?_ | refine z_set (by simp only [restG, wipeG, List.set_cons_zero, List.set_cons_succ, List.getElem?_cons_zero, List.getElem?_cons_succ, Option.getD_some]; with_unfolding_all rfl) ?_ | refine z_sl (by with_unfolding_all rfl) ?_ | refine z_addI ?_ | refine z_subI ?_ | refine z_mulI (by first | exact mulC_l | exact mulC_r) ?_ | refine z_divI (by omega) (by omega) ?_ | refine z_modI (by omega) ?_ | refine z_powI (by with_unfolding_all rfl) ?_ | refine z_negI ?_ | refine z_ltI ?_ | refine z_leI ?_ | refine z_gtI ?_ | refine z_geI ?_ | refine z_maxI ?_ | refine z_minI ?_ | refine z_eqI ?_ | refine z_eqB ?_ | refine Eq.mpr wp_isi ?_ | refine z_neI ?_ | refine z_eqS ?_ | refine z_neS ?_ | refine z_lenG ?_ | refine z_lenGT ?_ | refine z_lenL ?_ | refine z_lenT ?_ | refine z_lenO ?_ | refine z_lenS (by omega) ?_ | refine z_slHi (by omega) ?_ | refine z_slLo (by omega) ?_ | refine z_slB (by omega) ?_ | refine z_addS (by with_unfolding_all ((try simp only [len_app]); omega)) ?_ | refine z_itL ?_ | refine z_itT ?_ | refine z_itS ?_ | refine z_itgL ?_ | refine z_itgT ?_ | refine z_call ?_ | refine z_cw (by with_unfolding_all rfl) (by simp only [List.map_nil, List.append_nil]; rfl) ?_ | refine z_back (by with_unfolding_all rfl) (by simp only [giveA, List.length_cons, List.length_nil, List.take_succ_cons, List.take_zero, List.getElem?_cons_zero, List.getElem?_cons_succ, List.set_cons_zero, List.set_cons_succ]; with_unfolding_all rfl) ?_ | refine z_fin (by with_unfolding_all rfl) ?_)
        exact ⟨rfl, c, s, _, _, _, _, len_cutHi y 5, rfl⟩
      · repeat (with_reducible first | refine z_lenOk (by with_unfolding_all rfl) ?_ | refine Eq.mpr optW_some ?_ | refine Eq.mpr fw_ok ?_ | refine Eq.mpr wp_seq ?_ | refine Eq.mpr wp_asg ?_ | refine Eq.mpr wp_retM ?_ | refine Eq.mpr wp_if ?_ | refine Eq.mpr wp_tst ?_ | refine Eq.mpr wp_op ?_ | refine Eq.mpr wp_cons ?_ | refine Eq.mpr wp_d ?_ | refine Eq.mpr wp_ret ?_ | refine Eq.mpr wp_valA ?_ | refine Eq.mpr wp_bd ?_ | refine Eq.mpr wp_andV ?_ | refine Eq.mpr wp_orV ?_ | refine Eq.mpr wp_notV ?_ | refine Eq.mpr wp_notZ ?_ | refine Eq.mpr wp_andZ ?_ | refine Eq.mpr wp_orZ ?_ | refine Eq.mpr wp_lst ?_ | refine Eq.mpr wp_tup ?_ | refine Eq.mpr wp_drop ?_ | refine Eq.mpr wp_bl ?_ | refine Eq.mpr wp_ch ?_ | refine Eq.mpr wp_slLh ?_ | refine Eq.mpr wp_up ?_ | refine Eq.mpr wp_join ?_ | refine Eq.mpr wp_comp ?_ | refine Eq.mpr wp_vw ?_ | refine Eq.mpr wp_opt ?_ | refine z_rd (by with_unfolding_all rfl) ?_ | refine z_pk (by with_unfolding_all rfl) ?_ | refine z_mv (by with_unfolding_all rfl) (by simp only [restG, wipeG, List.set_cons_zero, List.set_cons_succ, List.getElem?_cons_zero, List.getElem?_cons_succ, Option.getD_some]; with_unfolding_all rfl) ?_ | refine z_fz (by with_unfolding_all rfl) ?_ | refine z_fzL (by with_unfolding_all rfl) (by with_unfolding_all rfl) (by simp only [restG, wipeG, List.set_cons_zero, List.set_cons_succ, List.getElem?_cons_zero, List.getElem?_cons_succ, Option.getD_some]; with_unfolding_all rfl) ?_ | refine z_set (by simp only [restG, wipeG, List.set_cons_zero, List.set_cons_succ, List.getElem?_cons_zero, List.getElem?_cons_succ, Option.getD_some]; with_unfolding_all rfl) ?_ | refine z_sl (by with_unfolding_all rfl) ?_ | refine z_addI ?_ | refine z_subI ?_ | refine z_mulI (by first | exact mulC_l | exact mulC_r) ?_ | refine z_divI (by omega) (by omega) ?_ | refine z_modI (by omega) ?_ | refine z_powI (by with_unfolding_all rfl) ?_ | refine z_negI ?_ | refine z_ltI ?_ | refine z_leI ?_ | refine z_gtI ?_ | refine z_geI ?_ | refine z_maxI ?_ | refine z_minI ?_ | refine z_eqI ?_ | refine z_eqB ?_ | refine Eq.mpr wp_isi ?_ | refine z_neI ?_ | refine z_eqS ?_ | refine z_neS ?_ | refine z_lenG ?_ | refine z_lenGT ?_ | refine z_lenL ?_ | refine z_lenT ?_ | refine z_lenO ?_ | refine z_lenS (by omega) ?_ | refine z_slHi (by omega) ?_ | refine z_slLo (by omega) ?_ | refine z_slB (by omega) ?_ | refine z_addS (by with_unfolding_all ((try simp only [len_app]); omega)) ?_ | refine z_itL ?_ | refine z_itT ?_ | refine z_itS ?_ | refine z_itgL ?_ | refine z_itgT ?_ | refine z_call ?_ | refine z_cw (by with_unfolding_all rfl) (by simp only [List.map_nil, List.append_nil]; rfl) ?_ | refine z_back (by with_unfolding_all rfl) (by simp only [giveA, List.length_cons, List.length_nil, List.take_succ_cons, List.take_zero, List.getElem?_cons_zero, List.getElem?_cons_succ, List.set_cons_zero, List.set_cons_succ]; with_unfolding_all rfl) ?_ | refine z_fin (by with_unfolding_all rfl) ?_)
        exact ⟨rfl, c, s, z, _, _, _, hz5, rfl⟩
    · rintro fl g ⟨rfl, c, s, z, o3, o4, o5, hz, rfl⟩
      repeat (with_reducible first | refine z_lenOk (by with_unfolding_all rfl) ?_ | refine Eq.mpr optW_some ?_ | refine Eq.mpr fw_ok ?_ | refine Eq.mpr wp_seq ?_ | refine Eq.mpr wp_asg ?_ | refine Eq.mpr wp_retM ?_ | refine Eq.mpr wp_tst ?_ | refine Eq.mpr wp_op ?_ | refine Eq.mpr wp_cons ?_ | refine Eq.mpr wp_d ?_ | refine Eq.mpr wp_ret ?_ | refine Eq.mpr wp_valA ?_ | refine Eq.mpr wp_bd ?_ | refine Eq.mpr wp_andV ?_ | refine Eq.mpr wp_orV ?_ | refine Eq.mpr wp_notV ?_ | refine Eq.mpr wp_notZ ?_ | refine Eq.mpr wp_andZ ?_ | refine Eq.mpr wp_orZ ?_ | refine Eq.mpr wp_lst ?_ | refine Eq.mpr wp_tup ?_ | refine Eq.mpr wp_drop ?_ | refine Eq.mpr wp_bl ?_ | refine Eq.mpr wp_ch ?_ | refine Eq.mpr wp_slLh ?_ | refine Eq.mpr wp_up ?_ | refine Eq.mpr wp_join ?_ | refine Eq.mpr wp_comp ?_ | refine Eq.mpr wp_vw ?_ | refine Eq.mpr wp_opt ?_ | refine z_rd (by with_unfolding_all rfl) ?_ | refine z_pk (by with_unfolding_all rfl) ?_ | refine z_mv (by with_unfolding_all rfl) (by simp only [restG, wipeG, List.set_cons_zero, List.set_cons_succ, List.getElem?_cons_zero, List.getElem?_cons_succ, Option.getD_some]; with_unfolding_all rfl) ?_ | refine z_fz (by with_unfolding_all rfl) ?_ | refine z_fzL (by with_unfolding_all rfl) (by with_unfolding_all rfl) (by simp only [restG, wipeG, List.set_cons_zero, List.set_cons_succ, List.getElem?_cons_zero, List.getElem?_cons_succ, Option.getD_some]; with_unfolding_all rfl) ?_ | refine z_set (by simp only [restG, wipeG, List.set_cons_zero, List.set_cons_succ, List.getElem?_cons_zero, List.getElem?_cons_succ, Option.getD_some]; with_unfolding_all rfl) ?_ | refine z_sl (by with_unfolding_all rfl) ?_ | refine z_addI ?_ | refine z_subI ?_ | refine z_mulI (by first | exact mulC_l | exact mulC_r) ?_ | refine z_divI (by omega) (by omega) ?_ | refine z_modI (by omega) ?_ | refine z_powI (by with_unfolding_all rfl) ?_ | refine z_negI ?_ | refine z_ltI ?_ | refine z_leI ?_ | refine z_gtI ?_ | refine z_geI ?_ | refine z_maxI ?_ | refine z_minI ?_ | refine z_eqI ?_ | refine z_eqB ?_ | refine Eq.mpr wp_isi ?_ | refine z_neI ?_ | refine z_eqS ?_ | refine z_neS ?_ | refine z_lenG ?_ | refine z_lenGT ?_ | refine z_lenL ?_ | refine z_lenT ?_ | refine z_lenO ?_ | refine z_lenS (by omega) ?_ | refine z_slHi (by omega) ?_ | refine z_slLo (by omega) ?_ | refine z_slB (by omega) ?_ | refine z_addS (by with_unfolding_all ((try simp only [len_app]); omega)) ?_ | refine z_itL ?_ | refine z_itT ?_ | refine z_itS ?_ | refine z_itgL ?_ | refine z_itgT ?_ | refine z_call ?_ | refine z_cw (by with_unfolding_all rfl) (by simp only [List.map_nil, List.append_nil]; rfl) ?_ | refine z_back (by with_unfolding_all rfl) (by simp only [giveA, List.length_cons, List.length_nil, List.take_succ_cons, List.take_zero, List.getElem?_cons_zero, List.getElem?_cons_succ, List.set_cons_zero, List.set_cons_succ]; with_unfolding_all rfl) ?_ | refine z_fin (by with_unfolding_all rfl) ?_)
      refine Wp.mono (A := fun fl g => fl = Fl.next ∧ ∃ (c s : Int) (z : Str), z.length ≤ 5 ∧ g = [some (.lst [.d (.int c), .d (.int s)]), some (.d (.str "abcdefghijklmnopqrstuvwxyz")), some (.d (.str z)), o3, o4, o5, none]) (B := fun _ _ => False) ?_ ?_ (fun _ _ z => z.elim)
      · repeat (with_reducible first | refine z_lenOk (by with_unfolding_all rfl) ?_ | refine Eq.mpr optW_some ?_ | refine Eq.mpr fw_ok ?_ | refine Eq.mpr wp_seq ?_ | refine Eq.mpr wp_asg ?_ | refine Eq.mpr wp_retM ?_ | refine Eq.mpr wp_if ?_ | refine Eq.mpr wp_tst ?_ | refine Eq.mpr wp_op ?_ | refine Eq.mpr wp_cons ?_ | refine Eq.mpr wp_d ?_ | refine Eq.mpr wp_ret ?_ | refine Eq.mpr wp_valA ?_ | refine Eq.mpr wp_bd ?_ | refine Eq.mpr wp_andV ?_ | refine Eq.mpr wp_orV ?_ | refine Eq.mpr wp_notV ?_ | refine Eq.mpr wp_notZ ?_ | refine Eq.mpr wp_andZ ?_ | refine Eq.mpr wp_orZ ?_ | refine Eq.mpr wp_lst ?_ | refine Eq.mpr wp_tup ?_ | refine Eq.mpr wp_drop ?_ | refine Eq.mpr wp_bl ?_ | refine Eq.mpr wp_ch ?_ | refine Eq.mpr wp_slLh ?_ | refine Eq.mpr wp_up ?_ | refine Eq.mpr wp_join ?_ | refine Eq.mpr wp_comp ?_ | refine Eq.mpr wp_vw ?_ | refine Eq.mpr wp_opt ?_ | refine z_rd (by with_unfolding_all rfl) ?_ | refine z_pk (by with_unfolding_all rfl) ?_ | refine z_mv (by with_unfolding_all rfl) (by simp only [restG, wipeG, List.set_cons_zero, List.set_cons_succ, List.getElem?_cons_zero, List.getElem?_cons_succ, Option.getD_some]; with_unfolding_all rfl) ?_ | refine z_fz (by with_unfolding_all rfl) ?_ | refine z_fzL (by with_unfolding_all rfl) (by with_unfolding_all rfl) (by simp only [restG, wipeG, List.set_cons_zero, List.set_cons_succ, List.getElem?_cons_zero, List.getElem?_cons_succ, Option.getD_some]; with_unfolding_all rfl) ?_ | refine z_set (by simp only [restG, wipeG, List.set_cons_zero, List.set_cons_succ, List.getElem?_cons_zero, List.getElem?_cons_succ, Option.getD_some]; with_unfolding_all rfl) ?_ | refine z_sl (by with_unfolding_all rfl) ?_ | refine z_addI ?_ | refine z_subI ?_ | refine z_mulI (by first | exact mulC_l | exact mulC_r) ?_ | refine z_divI (by omega) (by omega) ?_ | refine z_modI (by omega) ?_ | refine z_powI (by with_unfolding_all rfl) ?_ | refine z_negI ?_ | refine z_ltI ?_ | refine z_leI ?_ | refine z_gtI ?_ | refine z_geI ?_ | refine z_maxI ?_ | refine z_minI ?_ | refine z_eqI ?_ | refine z_eqB ?_ | refine Eq.mpr wp_isi ?_ | refine z_neI ?_ | refine z_eqS ?_ | refine z_neS ?_ | refine z_lenG ?_ | refine z_lenGT ?_ | refine z_lenL ?_ | refine z_lenT ?_ | refine z_lenO ?_ | refine z_lenS (by omega) ?_ | refine z_slHi (by omega) ?_ | refine z_slLo (by omega) ?_ | refine z_slB (by omega) ?_ | refine z_addS (by with_unfolding_all ((try simp only [len_app]); omega)) ?_ | refine z_itL ?_ | refine z_itT ?_ | refine z_itS ?_ | refine z_itgL ?_ | refine z_itgT ?_ | refine z_call ?_ | refine z_cw (by with_unfolding_all rfl) (by simp only [List.map_nil, List.append_nil]; rfl) ?_ | refine z_back (by with_unfolding_all rfl) (by simp only [giveA, List.length_cons, List.length_nil, List.take_succ_cons, List.take_zero, List.getElem?_cons_zero, List.getElem?_cons_succ, List.set_cons_zero, List.set_cons_succ]; with_unfolding_all rfl) ?_ | refine z_fin (by with_unfolding_all rfl) ?_)
        (refine fw_tk ⟨_, _, rfl⟩ (by omega) (by omega) fun m c s h2 h3 => ?_); repeat (with_reducible first | refine z_lenOk (by with_unfolding_all rfl) ?_ | refine Eq.mpr optW_some ?_ | refine Eq.mpr fw_ok ?_ | refine Eq.mpr wp_seq ?_ | refine Eq.mpr wp_asg ?_ | refine Eq.mpr wp_retM ?_ | refine Eq.mpr wp_if ?_ | refine Eq.mpr wp_tst ?_ | refine Eq.mpr wp_op ?_ | refine Eq.mpr wp_cons ?_ | refine Eq.mpr wp_d ?_ | refine Eq.mpr wp_ret ?_ | refine Eq.mpr wp_valA ?_ | refine Eq.mpr wp_bd ?_ | refine Eq.mpr wp_andV ?_ | refine Eq.mpr wp_orV ?_ | refine Eq.mpr wp_notV ?_ | refine Eq.mpr wp_notZ ?_ | refine Eq.mpr wp_andZ ?_ | refine Eq.mpr wp_orZ ?_ | refine Eq.mpr wp_lst ?_ | refine Eq.mpr wp_tup ?_ | refine Eq.mpr wp_drop ?_ | refine Eq.mpr wp_bl ?_ | refine Eq.mpr wp_ch ?_ | refine Eq.mpr wp_slLh ?_ | refine Eq.mpr wp_up ?_ | refine Eq.mpr wp_join ?_ | refine Eq.mpr wp_comp ?_ | refine Eq.mpr wp_vw ?_ | refine Eq.mpr wp_opt ?_ | refine z_rd (by with_unfolding_all rfl) ?_ | refine z_pk (by with_unfolding_all rfl) ?_ | refine z_mv (by with_unfolding_all rfl) (by simp only [restG, wipeG, List.set_cons_zero, List.set_cons_succ, List.getElem?_cons_zero, List.getElem?_cons_succ, Option.getD_some]; with_unfolding_all rfl) ?_ | refine z_fz (by with_unfolding_all rfl) ?_ | refine z_fzL (by with_unfolding_all rfl) (by with_unfolding_all rfl) (by simp only [restG, wipeG, List.set_cons_zero, List.set_cons_succ, List.getElem?_cons_zero, List.getElem?_cons_succ, Option.getD_some]; with_unfolding_all rfl) ?_ | refine z_set (by simp only [restG, wipeG, List.set_cons_zero, List.set_cons_succ, List.getElem?_cons_zero, List.getElem?_cons_succ, Option.getD_some]; with_unfolding_all rfl) ?_ | refine z_sl (by with_unfolding_all rfl) ?_ | refine z_addI ?_ | refine z_subI ?_ | refine z_mulI (by first | exact mulC_l | exact mulC_r) ?_ | refine z_divI (by omega) (by omega) ?_ | refine z_modI (by omega) ?_ | refine z_powI (by with_unfolding_all rfl) ?_ | refine z_negI ?_ | refine z_ltI ?_ | refine z_leI ?_ | refine z_gtI ?_ | refine z_geI ?_ | refine z_maxI ?_ | refine z_minI ?_ | refine z_eqI ?_ | refine z_eqB ?_ | refine Eq.mpr wp_isi ?_ | refine z_neI ?_ | refine z_eqS ?_ | refine z_neS ?_ | refine z_lenG ?_ | refine z_lenGT ?_ | refine z_lenL ?_ | refine z_lenT ?_ | refine z_lenO ?_ | refine z_lenS (by omega) ?_ | refine z_slHi (by omega) ?_ | refine z_slLo (by omega) ?_ | refine z_slB (by omega) ?_ | refine z_addS (by with_unfolding_all ((try simp only [len_app]); omega)) ?_ | refine z_itL ?_ | refine z_itT ?_ | refine z_itS ?_ | refine z_itgL ?_ | refine z_itgT ?_ | refine z_call ?_ | refine z_cw (by with_unfolding_all rfl) (by simp only [List.map_nil, List.append_nil]; rfl) ?_ | refine z_back (by with_unfolding_all rfl) (by simp only [giveA, List.length_cons, List.length_nil, List.take_succ_cons, List.take_zero, List.getElem?_cons_zero, List.getElem?_cons_succ, List.set_cons_zero, List.set_cons_succ]; with_unfolding_all rfl) ?_ | refine z_fin (by with_unfolding_all rfl) ?_)
        refine z_ite (fun _ => ?_) (fun _ => ?_)
        · repeat (with_reducible first | refine z_lenOk (by with_unfolding_all rfl) ?_ | refine Eq.mpr optW_some ?_ | refine Eq.mpr fw_ok ?_ | refine Eq.mpr wp_seq ?_ | refine Eq.mpr wp_asg ?_ | refine Eq.mpr wp_retM ?_ | refine Eq.mpr wp_if ?_ | refine Eq.mpr wp_tst ?_ | refine Eq.mpr wp_op ?_ | refine Eq.mpr wp_cons ?_ | refine Eq.mpr wp_d ?_ | refine Eq.mpr wp_ret ?_ | refine Eq.mpr wp_valA ?_ | refine Eq.mpr wp_bd ?_ | refine Eq.mpr wp_andV ?_ | refine Eq.mpr wp_orV ?_ | refine Eq.mpr wp_notV ?_ | refine Eq.mpr wp_notZ ?_ | refine Eq.mpr wp_andZ ?_ | refine Eq.mpr wp_orZ ?_ | refine Eq.mpr wp_lst ?_ | refine Eq.mpr wp_tup ?_ | refine Eq.mpr wp_drop ?_ | refine Eq.mpr wp_bl ?_ | refine Eq.mpr wp_ch ?_ | refine Eq.mpr wp_slLh ?_ | refine Eq.mpr wp_up ?_ | refine Eq.mpr wp_join ?_ | refine Eq.mpr wp_comp ?_ | refine Eq.mpr wp_vw ?_ | refine Eq.mpr wp_opt ?_ | refine z_rd (by with_unfolding_all rfl) ?_ | refine z_pk (by with_unfolding_all rfl) ?_ | refine z_mv (by with_unfolding_all rfl) (by simp only [restG, wipeG, List.set_cons_zero, List.set_cons_succ, List.getElem?_cons_zero, List.getElem?_cons_succ, Option.getD_some]; with_unfolding_all rfl) ?_ | refine z_fz (by with_unfolding_all rfl) ?_ | refine z_fzL (by with_unfolding_all rfl) (by with_unfolding_all rfl) (by simp only [restG, wipeG, List.set_cons_zero, List.set_cons_succ, List.getElem?_cons_zero, List.getElem?_cons_succ, Option.getD_some]; with_unfolding_all rfl) ?_ | refine z_set (by simp only [restG, wipeG, List.set_cons_zero, List.set_cons_succ, List.getElem?_cons_zero, List.getElem?_cons_succ, Option.getD_some]; with_unfolding_all rfl) ?_ | refine z_sl (by with_unfolding_all rfl) ?_ | refine z_addI ?_ | refine z_subI ?_ | refine z_mulI (by first | exact mulC_l | exact mulC_r) ?_ | refine z_divI (by omega) (by omega) ?_ | refine z_modI (by omega) ?_ | refine z_powI (by with_unfolding_all rfl) ?_ | refine z_negI ?_ | refine z_ltI ?_ | refine z_leI ?_ | refine z_gtI ?_ | refine z_geI ?_ | refine z_maxI ?_ | refine z_minI ?_ | refine z_eqI ?_ | refine z_eqB ?_ | refine Eq.mpr wp_isi ?_ | refine z_neI ?_ | refine z_eqS ?_ | refine z_neS ?_ | refine z_lenG ?_ | refine z_lenGT ?_ | refine z_lenL ?_ | refine z_lenT ?_ | refine z_lenO ?_ | refine z_lenS (by omega) ?_ | refine z_slHi (by omega) ?_ | refine z_slLo (by omega) ?_ | refine z_slB (by omega) ?_ | refine z_addS (by with_unfolding_all ((try simp only [len_app]); omega)) ?_ | refine z_itL ?_ | refine z_itT ?_ | refine z_itS ?_ | refine z_itgL ?_ | refine z_itgT ?_ | refine z_call ?_ | refine z_cw (by with_unfolding_all rfl) (by simp only [List.map_nil, List.append_nil]; rfl) ?_ | refine z_back (by with_unfolding_all rfl) (by simp only [giveA, List.length_cons, List.length_nil, List.take_succ_cons, List.take_zero, List.getElem?_cons_zero, List.getElem?_cons_succ, List.set_cons_zero, List.set_cons_succ]; with_unfolding_all rfl) ?_ | refine z_fin (by with_unfolding_all rfl) ?_)
          (refine fw_tk ⟨_, _, rfl⟩ (by omega) (by omega) fun r c s h4 h5 => ?_); repeat (with_reducible first | refine z_lenOk (by with_unfolding_all rfl) ?_ | refine Eq.mpr optW_some ?_ | refine Eq.mpr fw_ok ?_ | refine Eq.mpr wp_seq ?_ | refine Eq.mpr wp_asg ?_ | refine Eq.mpr wp_retM ?_ | refine Eq.mpr wp_if ?_ | refine Eq.mpr wp_tst ?_ | refine Eq.mpr wp_op ?_ | refine Eq.mpr wp_cons ?_ | refine Eq.mpr wp_d ?_ | refine Eq.mpr wp_ret ?_ | refine Eq.mpr wp_valA ?_ | refine Eq.mpr wp_bd ?_ | refine Eq.mpr wp_andV ?_ | refine Eq.mpr wp_orV ?_ | refine Eq.mpr wp_notV ?_ | refine Eq.mpr wp_notZ ?_ | refine Eq.mpr wp_andZ ?_ | refine Eq.mpr wp_orZ ?_ | refine Eq.mpr wp_lst ?_ | refine Eq.mpr wp_tup ?_ | refine Eq.mpr wp_drop ?_ | refine Eq.mpr wp_bl ?_ | refine Eq.mpr wp_ch ?_ | refine Eq.mpr wp_slLh ?_ | refine Eq.mpr wp_up ?_ | refine Eq.mpr wp_join ?_ | refine Eq.mpr wp_comp ?_ | refine Eq.mpr wp_vw ?_ | refine Eq.mpr wp_opt ?_ | refine z_rd (by with_unfolding_all rfl) ?_ | refine z_pk (by with_unfolding_all rfl) ?_ | refine z_mv (by with_unfolding_all rfl) (by simp only [restG, wipeG, List.set_cons_zero, List.set_cons_succ, List.getElem?_cons_zero, List.getElem?_cons_succ, Option.getD_some]; with_unfolding_all rfl) ?_ | refine z_fz (by with_unfolding_all rfl) ?_ | refine z_fzL (by with_unfolding_all rfl) (by with_unfolding_all rfl) (by simp only [restG, wipeG, List.set_cons_zero, List.set_cons_succ, List.getElem?_cons_zero, List.getElem?_cons_succ, Option.getD_some]; with_unfolding_all rfl) ?_ | refine z_set (by simp only [restG, wipeG, List.set_cons_zero, List.set_cons_succ, List.getElem?_cons_zero, List.getElem?_cons_succ, Option.getD_some]; with_unfolding_all rfl) ?_ | refine z_sl (by with_unfolding_all rfl) ?_ | refine z_addI ?_ | refine z_subI ?_ | refine z_mulI (by first | exact mulC_l | exact mulC_r) ?_ | refine z_divI (by omega) (by omega) ?_ | refine z_modI (by omega) ?_ | refine z_powI (by with_unfolding_all rfl) ?_ | refine z_negI ?_ | refine z_ltI ?_ | refine z_leI ?_ | refine z_gtI ?_ | refine z_geI ?_ | refine z_maxI ?_ | refine z_minI ?_ | refine z_eqI ?_ | refine z_eqB ?_ | refine Eq.mpr wp_isi ?_ | refine z_neI ?_ | refine z_eqS ?_ | refine z_neS ?_ | refine z_lenG ?_ | refine z_lenGT ?_ | refine z_lenL ?_ | refine z_lenT ?_ | refine z_lenO ?_ | refine z_lenS (by omega) ?_ | refine z_slHi (by omega) ?_ | refine z_slLo (by omega) ?_ | refine z_slB (by omega) ?_ | refine z_addS (by with_unfolding_all ((try simp only [len_app]); omega)) ?_ | refine z_itL ?_ | refine z_itT ?_ | refine z_itS ?_ | refine z_itgL ?_ | refine z_itgT ?_ | refine z_call ?_ | refine z_cw (by with_unfolding_all rfl) (by simp only [List.map_nil, List.append_nil]; rfl) ?_ | refine z_back (by with_unfolding_all rfl) (by simp only [giveA, List.length_cons, List.length_nil, List.take_succ_cons, List.take_zero, List.getElem?_cons_zero, List.getElem?_cons_succ, List.set_cons_zero, List.set_cons_succ]; with_unfolding_all rfl) ?_ | refine z_fin (by with_unfolding_all rfl) ?_)
          refine optW_ix (asLT_d rfl) h4 h5 fun x hx => ?_
          have hx' : ∃ y : Str, x = .str y ∧ y.length ≤ 5 := by
            simp only [List.mem_cons, List.not_mem_nil, or_false] at hx
            rcases hx with h | h <;> exact ⟨_, h, by decide⟩
          obtain ⟨y, rfl, hy⟩ := hx'
          repeat (with_reducible first | refine z_lenOk (by with_unfolding_all rfl) ?_ | refine Eq.mpr optW_some ?_ | refine Eq.mpr fw_ok ?_ | refine Eq.mpr wp_seq ?_ | refine Eq.mpr wp_asg ?_ | refine Eq.mpr wp_retM ?_ | refine Eq.mpr wp_if ?_ | refine Eq.mpr wp_tst ?_ | refine Eq.mpr wp_op ?_ | refine Eq.mpr wp_cons ?_ | refine Eq.mpr wp_d ?_ | refine Eq.mpr wp_ret ?_ | refine Eq.mpr wp_valA ?_ | refine Eq.mpr wp_bd ?_ | refine Eq.mpr wp_andV ?_ | refine Eq.mpr wp_orV ?_ | refine Eq.mpr wp_notV ?_ | refine Eq.mpr wp_notZ ?_ | refine Eq.mpr wp_andZ ?_ | refine Eq.mpr wp_orZ ?_ | refine Eq.mpr wp_lst ?_ | refine Eq.mpr wp_tup ?_ | refine Eq.mpr wp_drop ?_ | refine Eq.mpr wp_bl ?_ | refine Eq.mpr wp_ch ?_ | refine Eq.mpr wp_slLh ?_ | refine Eq.mpr wp_up ?_ | refine Eq.mpr wp_join ?_ | refine Eq.mpr wp_comp ?_ | refine Eq.mpr wp_vw ?_ | refine Eq.mpr wp_opt ?_ | refine z_rd (by with_unfolding_all rfl) ?_ | refine z_pk (by with_unfolding_all rfl) ?_ | refine z_mv (by with_unfolding_all rfl) (by simp only [restG, wipeG, List.set_cons_zero, List.set_cons_succ, List.getElem?_cons_zero, List.getElem?_cons_succ, Option.getD_some]; with_unfolding_all rfl) ?_ | refine z_fz (by with_unfolding_all rfl) ?_ | refine z_fzL (by with_unfolding_all rfl) (by with_unfolding_all rfl) (by simp only [restG, wipeG, List.set_cons_zero, List.set_cons_succ, List.getElem?_cons_zero, List.getElem?_cons_succ, Option.getD_some]; with_unfolding_all rfl) ?_ | refine z_set (by simp only [restG, wipeG, List.set_cons_zero, List.set_cons_succ, List.getElem?_cons_zero, List.getElem?_cons_succ, Option.getD_some]; with_unfolding_all rfl) ?_ | refine z_sl (by with_unfolding_all rfl) ?_ | refine z_addI ?_ | refine z_subI ?_ | refine z_mulI (by first | exact mulC_l | exact mulC_r) ?_ | refine z_divI (by omega) (by omega) ?_ | refine z_modI (by omega) ?_ | refine z_powI (by with_unfolding_all rfl) ?_ | refine z_negI ?_ | refine z_ltI ?_ | refine z_leI ?_ | refine z_gtI ?_ | refine z_geI ?_ | refine z_maxI ?_ | refine z_minI ?_ | refine z_eqI ?_ | refine z_eqB ?_ | refine Eq.mpr wp_isi ?_ | refine z_neI ?_ | refine z_eqS ?_ | refine z_neS ?_ | refine z_lenG ?_ | refine z_lenGT ?_ | refine z_lenL ?_ | refine z_lenT ?_ | refine z_lenO ?_ | refine z_lenS (by omega) ?_ | refine z_slHi (by omega) ?_ | refine z_slLo (by omega) ?_ | refine z_slB (by omega) ?_ | refine z_addS (by with_unfolding_all ((try simp only [len_app]); omega)) ?_ | refine z_itL ?_ | refine z_itT ?_ | refine z_itS ?_ | refine z_itgL ?_ | refine z_itgT ?_ | refine z_call ?_ | refine z_cw (by with_unfolding_all rfl) (by simp only [List.map_nil, List.append_nil]; rfl) ?_ | refine z_back (by with_unfolding_all rfl) (by simp only [giveA, List.length_cons, List.length_nil, List.take_succ_cons, List.take_zero, List.getElem?_cons_zero, List.getElem?_cons_succ, List.set_cons_zero, List.set_cons_succ]; with_unfolding_all rfl) ?_ | refine z_fin (by with_unfolding_all rfl) ?_)
          exact ⟨rfl, c, s, y, hy, rfl⟩
        · repeat (with_reducible first | refine z_lenOk (by with_unfolding_all rfl) ?_ | refine Eq.mpr optW_some ?_ | refine Eq.mpr fw_ok ?_ | refine Eq.mpr wp_seq ?_ | refine Eq.mpr wp_asg ?_ | refine Eq.mpr wp_retM ?_ | refine Eq.mpr wp_if ?_ | refine Eq.mpr wp_tst ?_ | refine Eq.mpr wp_op ?_ | refine Eq.mpr wp_cons ?_ | refine Eq.mpr wp_d ?_ | refine Eq.mpr wp_ret ?_ | refine Eq.mpr wp_valA ?_ | refine Eq.mpr wp_bd ?_ | refine Eq.mpr wp_andV ?_ | refine Eq.mpr wp_orV ?_ | refine Eq.mpr wp_notV ?_ | refine Eq.mpr wp_notZ ?_ | refine Eq.mpr wp_andZ ?_ | refine Eq.mpr wp_orZ ?_ | refine Eq.mpr wp_lst ?_ | refine Eq.mpr wp_tup ?_ | refine Eq.mpr wp_drop ?_ | refine Eq.mpr wp_bl ?_ | refine Eq.mpr wp_ch ?_ | refine Eq.mpr wp_slLh ?_ | refine Eq.mpr wp_up ?_ | refine Eq.mpr wp_join ?_ | refine Eq.mpr wp_comp ?_ | refine Eq.mpr wp_vw ?_ | refine Eq.mpr wp_opt ?_ | refine z_rd (by with_unfolding_all rfl) ?_ | refine z_pk (by with_unfolding_all rfl) ?_ | refine z_mv (by with_unfolding_all rfl) (by simp only [restG, wipeG, List.set_cons_zero, List.set_cons_succ, List.getElem?_cons_zero, List.getElem?_cons_succ, Option.getD_some]; with_unfolding_all rfl) ?_ | refine z_fz (by with_unfolding_all rfl) ?_ | refine z_fzL (by with_unfolding_all rfl) (by with_unfolding_all rfl) (by simp only [restG, wipeG, List.set_cons_zero, List.set_cons_succ, List.getElem?_cons_zero, List.getElem?_cons_succ, Option.getD_some]; with_unfolding_all rfl) ?_ | refine z_set (by simp only [restG, wipeG, List.set_cons_zero, List.set_cons_succ, List.getElem?_cons_zero, List.getElem?_cons_succ, Option.getD_some]; with_unfolding_all rfl) ?_ | refine z_sl (by with_unfolding_all rfl) ?_ | refine z_addI ?_ | refine z_subI ?_ | refine z_mulI (by first | exact mulC_l | exact mulC_r) ?_ | refine z_divI (by omega) (by omega) ?_ | refine z_modI (by omega) ?_ | refine z_powI (by with_unfolding_all rfl) ?_ | refine z_negI ?_ | refine z_ltI ?_ | refine z_leI ?_ | refine z_gtI ?_ | refine z_geI ?_ | refine z_maxI ?_ | refine z_minI ?_ | refine z_eqI ?_ | refine z_eqB ?_ | refine Eq.mpr wp_isi ?_ | refine z_neI ?_ | refine z_eqS ?_ | refine z_neS ?_ | refine z_lenG ?_ | refine z_lenGT ?_ | refine z_lenL ?_ | refine z_lenT ?_ | refine z_lenO ?_ | refine z_lenS (by omega) ?_ | refine z_slHi (by omega) ?_ | refine z_slLo (by omega) ?_ | refine z_slB (by omega) ?_ | refine z_addS (by with_unfolding_all ((try simp only [len_app]); omega)) ?_ | refine z_itL ?_ | refine z_itT ?_ | refine z_itS ?_ | refine z_itgL ?_ | refine z_itgT ?_ | refine z_call ?_ | refine z_cw (by with_unfolding_all rfl) (by simp only [List.map_nil, List.append_nil]; rfl) ?_ | refine z_back (by with_unfolding_all rfl) (by simp only [giveA, List.length_cons, List.length_nil, List.take_succ_cons, List.take_zero, List.getElem?_cons_zero, List.getElem?_cons_succ, List.set_cons_zero, List.set_cons_succ]; with_unfolding_all rfl) ?_ | refine z_fin (by with_unfolding_all rfl) ?_)
          exact ⟨rfl, c, s, z, hz, rfl⟩
      · rintro fl g ⟨rfl, c, s, z, hz, rfl⟩
        repeat (with_reducible first | refine z_lenOk (by with_unfolding_all rfl) ?_ | refine Eq.mpr optW_some ?_ | refine Eq.mpr fw_ok ?_ | refine Eq.mpr wp_seq ?_ | refine Eq.mpr wp_asg ?_ | refine Eq.mpr wp_retM ?_ | refine Eq.mpr wp_tst ?_ | refine Eq.mpr wp_op ?_ | refine Eq.mpr wp_cons ?_ | refine Eq.mpr wp_d ?_ | refine Eq.mpr wp_ret ?_ | refine Eq.mpr wp_valA ?_ | refine Eq.mpr wp_bd ?_ | refine Eq.mpr wp_andV ?_ | refine Eq.mpr wp_orV ?_ | refine Eq.mpr wp_notV ?_ | refine Eq.mpr wp_notZ ?_ | refine Eq.mpr wp_andZ ?_ | refine Eq.mpr wp_orZ ?_ | refine Eq.mpr wp_lst ?_ | refine Eq.mpr wp_tup ?_ | refine Eq.mpr wp_drop ?_ | refine Eq.mpr wp_bl ?_ | refine Eq.mpr wp_ch ?_ | refine Eq.mpr wp_slLh ?_ | refine Eq.mpr wp_up ?_ | refine Eq.mpr wp_join ?_ | refine Eq.mpr wp_comp ?_ | refine Eq.mpr wp_vw ?_ | refine Eq.mpr wp_opt ?_ | refine z_rd (by with_unfolding_all rfl) ?_ | refine z_pk (by with_unfolding_all rfl) ?_ | refine z_mv (by with_unfolding_all rfl) (by simp only [restG, wipeG, List.set_cons_zero, List.set_cons_succ, List.getElem?_cons_zero, List.getElem?_cons_succ, Option.getD_some]; with_unfolding_all rfl) ?_ | refine z_fz (by with_unfolding_all rfl) ?_ | refine z_fzL (by with_unfolding_all rfl) (by with_unfolding_all rfl) (by simp only [restG, wipeG, List.set_cons_zero, List.set_cons_succ, List.getElem?_cons_zero, List.getElem?_cons_succ, Option.getD_some]; with_unfolding_all rfl) ?_ | refine z_set (by simp only [restG, wipeG, List.set_cons_zero, List.set_cons_succ, List.getElem?_cons_zero, List.getElem?_cons_succ, Option.getD_some]; with_unfolding_all rfl) ?_ | refine z_sl (by with_unfolding_all rfl) ?_ | refine z_addI ?_ | refine z_subI ?_ | refine z_mulI (by first | exact mulC_l | exact mulC_r) ?_ | refine z_divI (by omega) (by omega) ?_ | refine z_modI (by omega) ?_ | refine z_powI (by with_unfolding_all rfl) ?_ | refine z_negI ?_ | refine z_ltI ?_ | refine z_leI ?_ | refine z_gtI ?_ | refine z_geI ?_ | refine z_maxI ?_ | refine z_minI ?_ | refine z_eqI ?_ | refine z_eqB ?_ | refine Eq.mpr wp_isi ?_ | refine z_neI ?_ | refine z_eqS ?_ | refine z_neS ?_ | refine z_lenG ?_ | refine z_lenGT ?_ | refine z_lenL ?_ | refine z_lenT ?_ | refine z_lenO ?_ | refine z_lenS (by omega) ?_ | refine z_slHi (by omega) ?_ | refine z_slLo (by omega) ?_ | refine z_slB (by omega) ?_ | refine z_addS (by with_unfolding_all ((try simp only [len_app]); omega)) ?_ | refine z_itL ?_ | refine z_itT ?_ | refine z_itS ?_ | refine z_itgL ?_ | refine z_itgT ?_ | refine z_call ?_ | refine z_cw (by with_unfolding_all rfl) (by simp only [List.map_nil, List.append_nil]; rfl) ?_ | refine z_back (by with_unfolding_all rfl) (by simp only [giveA, List.length_cons, List.length_nil, List.take_succ_cons, List.take_zero, List.getElem?_cons_zero, List.getElem?_cons_succ, List.set_cons_zero, List.set_cons_succ]; with_unfolding_all rfl) ?_ | refine z_fin (by with_unfolding_all rfl) ?_)
        refine Wp.mono (A := fun fl g => fl = Fl.next ∧ ∃ (z : Str), z.length ≤ 5 ∧ g = [some (.lst [.d (.int c), .d (.int s)]), some (.d (.str "abcdefghijklmnopqrstuvwxyz")), some (.d (.str z)), o3, o4, o5, none]) (B := fun _ _ => False) ?_ ?_ (fun _ _ z => z.elim)
        · repeat (with_reducible first | refine z_lenOk (by with_unfolding_all rfl) ?_ | refine Eq.mpr optW_some ?_ | refine Eq.mpr fw_ok ?_ | refine Eq.mpr wp_seq ?_ | refine Eq.mpr wp_asg ?_ | refine Eq.mpr wp_retM ?_ | refine Eq.mpr wp_if ?_ | refine Eq.mpr wp_tst ?_ | refine Eq.mpr wp_op ?_ | refine Eq.mpr wp_cons ?_ | refine Eq.mpr wp_d ?_ | refine Eq.mpr wp_ret ?_ | refine Eq.mpr wp_valA ?_ | refine Eq.mpr wp_bd ?_ | refine Eq.mpr wp_andV ?_ | refine Eq.mpr wp_orV ?_ | refine Eq.mpr wp_notV ?_ | refine Eq.mpr wp_notZ ?_ | refine Eq.mpr wp_andZ ?_ | refine Eq.mpr wp_orZ ?_ | refine Eq.mpr wp_lst ?_ | refine Eq.mpr wp_tup ?_ | refine Eq.mpr wp_drop ?_ | refine Eq.mpr wp_bl ?_ | refine Eq.mpr wp_ch ?_ | refine Eq.mpr wp_slLh ?_ | refine Eq.mpr wp_up ?_ | refine Eq.mpr wp_join ?_ | refine Eq.mpr wp_comp ?_ | refine Eq.mpr wp_vw ?_ | refine Eq.mpr wp_opt ?_ | refine z_rd (by with_unfolding_all rfl) ?_ | refine z_pk (by with_unfolding_all rfl) ?_ | refine z_mv (by with_unfolding_all rfl) (by simp only [restG, wipeG, List.set_cons_zero, List.set_cons_succ, List.getElem?_cons_zero, List.getElem?_cons_succ, Option.getD_some]; with_unfolding_all rfl) ?_ | refine z_fz (by with_unfolding_all rfl) ?_ | refine z_fzL (by with_unfolding_all rfl) (by with_unfolding_all rfl) (by simp only [restG, wipeG, List.set_cons_zero, List.set_cons_succ, List.getElem?_cons_zero, List.getElem?_cons_succ, Option.getD_some]; with_unfolding_all rfl) ?_ | refine z_set (by simp only [restG, wipeG, List.set_cons_zero, List.set_cons_succ, List.getElem?_cons_zero, List.getElem?_cons_succ, Option.getD_some]; with_unfolding_all rfl) ?_ | refine z_sl (by with_unfolding_all rfl) ?_ | refine z_addI ?_ | refine z_subI ?_ | refine z_mulI (by first | exact mulC_l | exact mulC_r) ?_ | refine z_divI (by omega) (by omega) ?_ | refine z_modI (by omega) ?_ | refine z_powI (by with_unfolding_all rfl) ?_ | refine z_negI ?_ | refine z_ltI ?_ | refine z_leI ?_ | refine z_gtI ?_ | refine z_geI ?_ | refine z_maxI ?_ | refine z_minI ?_ | refine z_eqI ?_ | refine z_eqB ?_ | refine Eq.mpr wp_isi ?_ | refine z_neI ?_ | refine z_eqS ?_ | refine z_neS ?_ | refine z_lenG ?_ | refine z_lenGT ?_ | refine z_lenL ?_ | refine z_lenT ?_ | refine z_lenO ?_ | refine z_lenS (by omega) ?_ | refine z_slHi (by omega) ?_ | refine z_slLo (by omega) ?_ | refine z_slB (by omega) ?_ | refine z_addS (by with_unfolding_all ((try simp only [len_app]); omega)) ?_ | refine z_itL ?_ | refine z_itT ?_ | refine z_itS ?_ | refine z_itgL ?_ | refine z_itgT ?_ | refine z_call ?_ | refine z_cw (by with_unfolding_all rfl) (by simp only [List.map_nil, List.append_nil]; rfl) ?_ | refine z_back (by with_unfolding_all rfl) (by simp only [giveA, List.length_cons, List.length_nil, List.take_succ_cons, List.take_zero, List.getElem?_cons_zero, List.getElem?_cons_succ, List.set_cons_zero, List.set_cons_succ]; with_unfolding_all rfl) ?_ | refine z_fin (by with_unfolding_all rfl) ?_)
          refine z_ite (fun _ => ?_) (fun _ => ?_)
          · repeat (with_reducible first | refine z_lenOk (by with_unfolding_all rfl) ?_ | refine Eq.mpr optW_some ?_ | refine Eq.mpr fw_ok ?_ | refine Eq.mpr wp_seq ?_ | refine Eq.mpr wp_asg ?_ | refine Eq.mpr wp_retM ?_ | refine Eq.mpr wp_if ?_ | refine Eq.mpr wp_tst ?_ | refine Eq.mpr wp_op ?_ | refine Eq.mpr wp_cons ?_ | refine Eq.mpr wp_d ?_ | refine Eq.mpr wp_ret ?_ | refine Eq.mpr wp_valA ?_ | refine Eq.mpr wp_bd ?_ | refine Eq.mpr wp_andV ?_ | refine Eq.mpr wp_orV ?_ | refine Eq.mpr wp_notV ?_ | refine Eq.mpr wp_notZ ?_ | refine Eq.mpr wp_andZ ?_ | refine Eq.mpr wp_orZ ?_ | refine Eq.mpr wp_lst ?_ | refine Eq.mpr wp_tup ?_ | refine Eq.mpr wp_drop ?_ | refine Eq.mpr wp_bl ?_ | refine Eq.mpr wp_ch ?_ | refine Eq.mpr wp_slLh ?_ | refine Eq.mpr wp_up ?_ | refine Eq.mpr wp_join ?_ | refine Eq.mpr wp_comp ?_ | refine Eq.mpr wp_vw ?_ | refine Eq.mpr wp_opt ?_ | refine z_rd (by with_unfolding_all rfl) ?_ | refine z_pk (by with_unfolding_all rfl) ?_ | refine z_mv (by with_unfolding_all rfl) (by simp only [restG, wipeG, List.set_cons_zero, List.set_cons_succ, List.getElem?_cons_zero, List.getElem?_cons_succ, Option.getD_some]; with_unfolding_all rfl) ?_ | refine z_fz (by with_unfolding_all rfl) ?_ | refine z_fzL (by with_unfolding_all rfl) (by with_unfolding_all rfl) (by simp only [restG, wipeG, List.set_cons_zero, List.set_cons_succ, List.getElem?_cons_zero, List.getElem?_cons_succ, Option.getD_some]; with_unfolding_all rfl) ?_ | refine z_set (by simp only [restG, wipeG, List.set_cons_zero, List.set_cons_succ, List.getElem?_cons_zero, List.getElem?_cons_succ, Option.getD_some]; with_unfolding_all rfl) ?_ | refine z_sl (by with_unfolding_all rfl) ?_ | refine z_addI ?_ | refine z_subI ?_ | refine z_mulI (by first | exact mulC_l | exact mulC_r) ?_ | refine z_divI (by omega) (by omega) ?_ | refine z_modI (by omega) ?_ | refine z_powI (by with_unfolding_all rfl) ?_ | refine z_negI ?_ | refine z_ltI ?_ | refine z_leI ?_ | refine z_gtI ?_ | refine z_geI ?_ | refine z_maxI ?_ | refine z_minI ?_ | refine z_eqI ?_ | refine z_eqB ?_ | refine Eq.mpr wp_isi ?_ | refine z_neI ?_ | refine z_eqS ?_ | refine z_neS ?_ | refine z_lenG ?_ | refine z_lenGT ?_ | refine z_lenL ?_ | refine z_lenT ?_ | refine z_lenO ?_ | refine z_lenS (by omega) ?_ | refine z_slHi (by omega) ?_ | refine z_slLo (by omega) ?_ | refine z_slB (by omega) ?_ | refine z_addS (by with_unfolding_all ((try simp only [len_app]); omega)) ?_ | refine z_itL ?_ | refine z_itT ?_ | refine z_itS ?_ | refine z_itgL ?_ | refine z_itgT ?_ | refine z_call ?_ | refine z_cw (by with_unfolding_all rfl) (by simp only [List.map_nil, List.append_nil]; rfl) ?_ | refine z_back (by with_unfolding_all rfl) (by simp only [giveA, List.length_cons, List.length_nil, List.take_succ_cons, List.take_zero, List.getElem?_cons_zero, List.getElem?_cons_succ, List.set_cons_zero, List.set_cons_succ]; with_unfolding_all rfl) ?_ | refine z_fin (by with_unfolding_all rfl) ?_)
            refine z_ifT rfl ?_
            repeat (with_reducible first | refine z_lenOk (by with_unfolding_all rfl) ?_ | refine Eq.mpr optW_some ?_ | refine Eq.mpr fw_ok ?_ | refine Eq.mpr wp_seq ?_ | refine Eq.mpr wp_asg ?_ | refine Eq.mpr wp_retM ?_ | refine Eq.mpr wp_if ?_ | refine Eq.mpr wp_tst ?_ | refine Eq.mpr wp_op ?_ | refine Eq.mpr wp_cons ?_ | refine Eq.mpr wp_d ?_ | refine Eq.mpr wp_ret ?_ | refine Eq.mpr wp_valA ?_ | refine Eq.mpr wp_bd ?_ | refine Eq.mpr wp_andV ?_ | refine Eq.mpr wp_orV ?_ | refine Eq.mpr wp_notV ?_ | refine Eq.mpr wp_notZ ?_ | refine Eq.mpr wp_andZ ?_ | refine Eq.mpr wp_orZ ?_ | refine Eq.mpr wp_lst ?_ | refine Eq.mpr wp_tup ?_ | refine Eq.mpr wp_drop ?_ | refine Eq.mpr wp_bl ?_ | refine Eq.mpr wp_ch ?_ | refine Eq.mpr wp_slLh ?_ | refine Eq.mpr wp_up ?_ | refine Eq.mpr wp_join ?_ | refine Eq.mpr wp_comp ?_ | refine Eq.mpr wp_vw ?_ | refine Eq.mpr wp_opt ?_ | refine z_rd (by with_unfolding_all rfl) ?_ | refine z_pk (by with_unfolding_all rfl) ?_ | refine z_mv (by with_unfolding_all rfl) (by simp only [restG, wipeG, List.set_cons_zero, List.set_cons_succ, List.getElem?_cons_zero, List.getElem?_cons_succ, Option.getD_some]; with_unfolding_all rfl) ?_ | refine z_fz (by with_unfolding_all rfl) ?_ | refine z_fzL (by with_unfolding_all rfl) (by with_unfolding_all rfl) (by simp only [restG, wipeG, List.set_cons_zero, List.set_cons_succ, List.getElem?_cons_zero, List.getElem?_cons_succ, Option.getD_some]; with_unfolding_all rfl) ?_ | refine z_set (by simp only [restG, wipeG, List.set_cons_zero, List.set_cons_succ, List.getElem?_cons_zero, List.getElem?_cons_succ, Option.getD_some]; with_unfolding_all rfl) ?_ | refine z_sl (by with_unfolding_all rfl) ?_ | refine z_addI ?_ | refine z_subI ?_ | refine z_mulI (by first | exact mulC_l | exact mulC_r) ?_ | refine z_divI (by omega) (by omega) ?_ | refine z_modI (by omega) ?_ | refine z_powI (by with_unfolding_all rfl) ?_ | refine z_negI ?_ | refine z_ltI ?_ | refine z_leI ?_ | refine z_gtI ?_ | refine z_geI ?_ | refine z_maxI ?_ | refine z_minI ?_ | refine z_eqI ?_ | refine z_eqB ?_ | refine Eq.mpr wp_isi ?_ | refine z_neI ?_ | refine z_eqS ?_ | refine z_neS ?_ | refine z_lenG ?_ | refine z_lenGT ?_ | refine z_lenL ?_ | refine z_lenT ?_ | refine z_lenO ?_ | refine z_lenS (by omega) ?_ | refine z_slHi (by omega) ?_ | refine z_slLo (by omega) ?_ | refine z_slB (by omega) ?_ | refine z_addS (by with_unfolding_all ((try simp only [len_app]); omega)) ?_ | refine z_itL ?_ | refine z_itT ?_ | refine z_itS ?_ | refine z_itgL ?_ | refine z_itgT ?_ | refine z_call ?_ | refine z_cw (by with_unfolding_all rfl) (by simp only [List.map_nil, List.append_nil]; rfl) ?_ | refine z_back (by with_unfolding_all rfl) (by simp only [giveA, List.length_cons, List.length_nil, List.take_succ_cons, List.take_zero, List.getElem?_cons_zero, List.getElem?_cons_succ, List.set_cons_zero, List.set_cons_succ]; with_unfolding_all rfl) ?_ | refine z_fin (by with_unfolding_all rfl) ?_)
            exact ⟨rfl, _, by decide, rfl⟩
          · repeat (with_reducible first | refine z_lenOk (by with_unfolding_all rfl) ?_ | refine Eq.mpr optW_some ?_ | refine Eq.mpr fw_ok ?_ | refine Eq.mpr wp_seq ?_ | refine Eq.mpr wp_asg ?_ | refine Eq.mpr wp_retM ?_ | refine Eq.mpr wp_if ?_ | refine Eq.mpr wp_tst ?_ | refine Eq.mpr wp_op ?_ | refine Eq.mpr wp_cons ?_ | refine Eq.mpr wp_d ?_ | refine Eq.mpr wp_ret ?_ | refine Eq.mpr wp_valA ?_ | refine Eq.mpr wp_bd ?_ | refine Eq.mpr wp_andV ?_ | refine Eq.mpr wp_orV ?_ | refine Eq.mpr wp_notV ?_ | refine Eq.mpr wp_notZ ?_ | refine Eq.mpr wp_andZ ?_ | refine Eq.mpr wp_orZ ?_ | refine Eq.mpr wp_lst ?_ | refine Eq.mpr wp_tup ?_ | refine Eq.mpr wp_drop ?_ | refine Eq.mpr wp_bl ?_ | refine Eq.mpr wp_ch ?_ | refine Eq.mpr wp_slLh ?_ | refine Eq.mpr wp_up ?_ | refine Eq.mpr wp_join ?_ | refine Eq.mpr wp_comp ?_ | refine Eq.mpr wp_vw ?_ | refine Eq.mpr wp_opt ?_ | refine z_rd (by with_unfolding_all rfl) ?_ | refine z_pk (by with_unfolding_all rfl) ?_ | refine z_mv (by with_unfolding_all rfl) (by simp only [restG, wipeG, List.set_cons_zero, List.set_cons_succ, List.getElem?_cons_zero, List.getElem?_cons_succ, Option.getD_some]; with_unfolding_all rfl) ?_ | refine z_fz (by with_unfolding_all rfl) ?_ | refine z_fzL (by with_unfolding_all rfl) (by with_unfolding_all rfl) (by simp only [restG, wipeG, List.set_cons_zero, List.set_cons_succ, List.getElem?_cons_zero, List.getElem?_cons_succ, Option.getD_some]; with_unfolding_all rfl) ?_ | refine z_set (by simp only [restG, wipeG, List.set_cons_zero, List.set_cons_succ, List.getElem?_cons_zero, List.getElem?_cons_succ, Option.getD_some]; with_unfolding_all rfl) ?_ | refine z_sl (by with_unfolding_all rfl) ?_ | refine z_addI ?_ | refine z_subI ?_ | refine z_mulI (by first | exact mulC_l | exact mulC_r) ?_ | refine z_divI (by omega) (by omega) ?_ | refine z_modI (by omega) ?_ | refine z_powI (by with_unfolding_all rfl) ?_ | refine z_negI ?_ | refine z_ltI ?_ | refine z_leI ?_ | refine z_gtI ?_ | refine z_geI ?_ | refine z_maxI ?_ | refine z_minI ?_ | refine z_eqI ?_ | refine z_eqB ?_ | refine Eq.mpr wp_isi ?_ | refine z_neI ?_ | refine z_eqS ?_ | refine z_neS ?_ | refine z_lenG ?_ | refine z_lenGT ?_ | refine z_lenL ?_ | refine z_lenT ?_ | refine z_lenO ?_ | refine z_lenS (by omega) ?_ | refine z_slHi (by omega) ?_ | refine z_slLo (by omega) ?_ | refine z_slB (by omega) ?_ | refine z_addS (by with_unfolding_all ((try simp only [len_app]); omega)) ?_ | refine z_itL ?_ | refine z_itT ?_ | refine z_itS ?_ | refine z_itgL ?_ | refine z_itgT ?_ | refine z_call ?_ | refine z_cw (by with_unfolding_all rfl) (by simp only [List.map_nil, List.append_nil]; rfl) ?_ | refine z_back (by with_unfolding_all rfl) (by simp only [giveA, List.length_cons, List.length_nil, List.take_succ_cons, List.take_zero, List.getElem?_cons_zero, List.getElem?_cons_succ, List.set_cons_zero, List.set_cons_succ]; with_unfolding_all rfl) ?_ | refine z_fin (by with_unfolding_all rfl) ?_)
            rw [taken_eq]
            repeat (with_reducible first | refine z_lenOk (by with_unfolding_all rfl) ?_ | refine Eq.mpr optW_some ?_ | refine Eq.mpr fw_ok ?_ | refine Eq.mpr wp_seq ?_ | refine Eq.mpr wp_asg ?_ | refine Eq.mpr wp_retM ?_ | refine Eq.mpr wp_if ?_ | refine Eq.mpr wp_tst ?_ | refine Eq.mpr wp_op ?_ | refine Eq.mpr wp_cons ?_ | refine Eq.mpr wp_d ?_ | refine Eq.mpr wp_ret ?_ | refine Eq.mpr wp_valA ?_ | refine Eq.mpr wp_bd ?_ | refine Eq.mpr wp_andV ?_ | refine Eq.mpr wp_orV ?_ | refine Eq.mpr wp_notV ?_ | refine Eq.mpr wp_notZ ?_ | refine Eq.mpr wp_andZ ?_ | refine Eq.mpr wp_orZ ?_ | refine Eq.mpr wp_lst ?_ | refine Eq.mpr wp_tup ?_ | refine Eq.mpr wp_drop ?_ | refine Eq.mpr wp_bl ?_ | refine Eq.mpr wp_ch ?_ | refine Eq.mpr wp_slLh ?_ | refine Eq.mpr wp_up ?_ | refine Eq.mpr wp_join ?_ | refine Eq.mpr wp_comp ?_ | refine Eq.mpr wp_vw ?_ | refine Eq.mpr wp_opt ?_ | refine z_rd (by with_unfolding_all rfl) ?_ | refine z_pk (by with_unfolding_all rfl) ?_ | refine z_mv (by with_unfolding_all rfl) (by simp only [restG, wipeG, List.set_cons_zero, List.set_cons_succ, List.getElem?_cons_zero, List.getElem?_cons_succ, Option.getD_some]; with_unfolding_all rfl) ?_ | refine z_fz (by with_unfolding_all rfl) ?_ | refine z_fzL (by with_unfolding_all rfl) (by with_unfolding_all rfl) (by simp only [restG, wipeG, List.set_cons_zero, List.set_cons_succ, List.getElem?_cons_zero, List.getElem?_cons_succ, Option.getD_some]; with_unfolding_all rfl) ?_ | refine z_set (by simp only [restG, wipeG, List.set_cons_zero, List.set_cons_succ, List.getElem?_cons_zero, List.getElem?_cons_succ, Option.getD_some]; with_unfolding_all rfl) ?_ | refine z_sl (by with_unfolding_all rfl) ?_ | refine z_addI ?_ | refine z_subI ?_ | refine z_mulI (by first | exact mulC_l | exact mulC_r) ?_ | refine z_divI (by omega) (by omega) ?_ | refine z_modI (by omega) ?_ | refine z_powI (by with_unfolding_all rfl) ?_ | refine z_negI ?_ | refine z_ltI ?_ | refine z_leI ?_ | refine z_gtI ?_ | refine z_geI ?_ | refine z_maxI ?_ | refine z_minI ?_ | refine z_eqI ?_ | refine z_eqB ?_ | refine Eq.mpr wp_isi ?_ | refine z_neI ?_ | refine z_eqS ?_ | refine z_neS ?_ | refine z_lenG ?_ | refine z_lenGT ?_ | refine z_lenL ?_ | refine z_lenT ?_ | refine z_lenO ?_ | refine z_lenS (by omega) ?_ | refine z_slHi (by omega) ?_ | refine z_slLo (by omega) ?_ | refine z_slB (by omega) ?_ | refine z_addS (by with_unfolding_all ((try simp only [len_app]); omega)) ?_ | refine z_itL ?_ | refine z_itT ?_ | refine z_itS ?_ | refine z_itgL ?_ | refine z_itgT ?_ | refine z_call ?_ | refine z_cw (by with_unfolding_all rfl) (by simp only [List.map_nil, List.append_nil]; rfl) ?_ | refine z_back (by with_unfolding_all rfl) (by simp only [giveA, List.length_cons, List.length_nil, List.take_succ_cons, List.take_zero, List.getElem?_cons_zero, List.getElem?_cons_succ, List.set_cons_zero, List.set_cons_succ]; with_unfolding_all rfl) ?_ | refine z_fin (by with_unfolding_all rfl) ?_)
            refine z_in (inB_lst (allD_map _) rfl rfl) ?_
            refine z_ite (fun _ => ?_) (fun _ => ?_)
            · repeat (with_reducible first | refine z_lenOk (by with_unfolding_all rfl) ?_ | refine Eq.mpr optW_some ?_ | refine Eq.mpr fw_ok ?_ | refine Eq.mpr wp_seq ?_ | refine Eq.mpr wp_asg ?_ | refine Eq.mpr wp_retM ?_ | refine Eq.mpr wp_if ?_ | refine Eq.mpr wp_tst ?_ | refine Eq.mpr wp_op ?_ | refine Eq.mpr wp_cons ?_ | refine Eq.mpr wp_d ?_ | refine Eq.mpr wp_ret ?_ | refine Eq.mpr wp_valA ?_ | refine Eq.mpr wp_bd ?_ | refine Eq.mpr wp_andV ?_ | refine Eq.mpr wp_orV ?_ | refine Eq.mpr wp_notV ?_ | refine Eq.mpr wp_notZ ?_ | refine Eq.mpr wp_andZ ?_ | refine Eq.mpr wp_orZ ?_ | refine Eq.mpr wp_lst ?_ | refine Eq.mpr wp_tup ?_ | refine Eq.mpr wp_drop ?_ | refine Eq.mpr wp_bl ?_ | refine Eq.mpr wp_ch ?_ | refine Eq.mpr wp_slLh ?_ | refine Eq.mpr wp_up ?_ | refine Eq.mpr wp_join ?_ | refine Eq.mpr wp_comp ?_ | refine Eq.mpr wp_vw ?_ | refine Eq.mpr wp_opt ?_ | refine z_rd (by with_unfolding_all rfl) ?_ | refine z_pk (by with_unfolding_all rfl) ?_ | refine z_mv (by with_unfolding_all rfl) (by simp only [restG, wipeG, List.set_cons_zero, List.set_cons_succ, List.getElem?_cons_zero, List.getElem?_cons_succ, Option.getD_some]; with_unfolding_all rfl) ?_ | refine z_fz (by with_unfolding_all rfl) ?_ | refine z_fzL (by with_unfolding_all rfl) (by with_unfolding_all rfl) (by simp only [restG, wipeG, List.set_cons_zero, List.set_cons_succ, List.getElem?_cons_zero, List.getElem?_cons_succ, Option.getD_some]; with_unfolding_all rfl) ?_ | refine z_set (by simp only [restG, wipeG, List.set_cons_zero, List.set_cons_succ, List.getElem?_cons_zero, List.getElem?_cons_succ, Option.getD_some]; with_unfolding_all rfl) ?_ | refine z_sl (by with_unfolding_all rfl) ?_ | refine z_addI ?_ | refine z_subI ?_ | refine z_mulI (by first | exact mulC_l | exact mulC_r) ?_ | refine z_divI (by omega) (by omega) ?_ | refine z_modI (by omega) ?_ | refine z_powI (by with_unfolding_all rfl) ?_ | refine z_negI ?_ | refine z_ltI ?_ | refine z_leI ?_ | refine z_gtI ?_ | refine z_geI ?_ | refine z_maxI ?_ | refine z_minI ?_ | refine z_eqI ?_ | refine z_eqB ?_ | refine Eq.mpr wp_isi ?_ | refine z_neI ?_ | refine z_eqS ?_ | refine z_neS ?_ | refine z_lenG ?_ | refine z_lenGT ?_ | refine z_lenL ?_ | refine z_lenT ?_ | refine z_lenO ?_ | refine z_lenS (by omega) ?_ | refine z_slHi (by omega) ?_ | refine z_slLo (by omega) ?_ | refine z_slB (by omega) ?_ | refine z_addS (by with_unfolding_all ((try simp only [len_app]); omega)) ?_ | refine z_itL ?_ | refine z_itT ?_ | refine z_itS ?_ | refine z_itgL ?_ | refine z_itgT ?_ | refine z_call ?_ | refine z_cw (by with_unfolding_all rfl) (by simp only [List.map_nil, List.append_nil]; rfl) ?_ | refine z_back (by with_unfolding_all rfl) (by simp only [giveA, List.length_cons, List.length_nil, List.take_succ_cons, List.take_zero, List.getElem?_cons_zero, List.getElem?_cons_succ, List.set_cons_zero, List.set_cons_succ]; with_unfolding_all rfl) ?_ | refine z_fin (by with_unfolding_all rfl) ?_)
              exact ⟨rfl, _, by decide, rfl⟩
            · repeat (with_reducible first | refine z_lenOk (by with_unfolding_all rfl) ?_ | refine Eq.mpr optW_some ?_ | refine Eq.mpr fw_ok ?_ | refine Eq.mpr wp_seq ?_ | refine Eq.mpr wp_asg ?_ | refine Eq.mpr wp_retM ?_ | refine Eq.mpr wp_if ?_ | refine Eq.mpr wp_tst ?_ | refine Eq.mpr wp_op ?_ | refine Eq.mpr wp_cons ?_ | refine Eq.mpr wp_d ?_ | refine Eq.mpr wp_ret ?_ | refine Eq.mpr wp_valA ?_ | refine Eq.mpr wp_bd ?_ | refine Eq.mpr wp_andV ?_ | refine Eq.mpr wp_orV ?_ | refine Eq.mpr wp_notV ?_ | refine Eq.mpr wp_notZ ?_ | refine Eq.mpr wp_andZ ?_ | refine Eq.mpr wp_orZ ?_ | refine Eq.mpr wp_lst ?_ | refine Eq.mpr wp_tup ?_ | refine Eq.mpr wp_drop ?_ | refine Eq.mpr wp_bl ?_ | refine Eq.mpr wp_ch ?_ | refine Eq.mpr wp_slLh ?_ | refine Eq.mpr wp_up ?_ | refine Eq.mpr wp_join ?_ | refine Eq.mpr wp_comp ?_ | refine Eq.mpr wp_vw ?_ | refine Eq.mpr wp_opt ?_ | refine z_rd (by with_unfolding_all rfl) ?_ | refine z_pk (by with_unfolding_all rfl) ?_ | refine z_mv (by with_unfolding_all rfl) (by simp only [restG, wipeG, List.set_cons_zero, List.set_cons_succ, List.getElem?_cons_zero, List.getElem?_cons_succ, Option.getD_some]; with_unfolding_all rfl) ?_ | refine z_fz (by with_unfolding_all rfl) ?_ | refine z_fzL (by with_unfolding_all rfl) (by with_unfolding_all rfl) (by simp only [restG, wipeG, List.set_cons_zero, List.set_cons_succ, List.getElem?_cons_zero, List.getElem?_cons_succ, Option.getD_some]; with_unfolding_all rfl) ?_ | refine z_set (by simp only [restG, wipeG, List.set_cons_zero, List.set_cons_succ, List.getElem?_cons_zero, List.getElem?_cons_succ, Option.getD_some]; with_unfolding_all rfl) ?_ | refine z_sl (by with_unfolding_all rfl) ?_ | refine z_addI ?_ | refine z_subI ?_ | refine z_mulI (by first | exact mulC_l | exact mulC_r) ?_ | refine z_divI (by omega) (by omega) ?_ | refine z_modI (by omega) ?_ | refine z_powI (by with_unfolding_all rfl) ?_ | refine z_negI ?_ | refine z_ltI ?_ | refine z_leI ?_ | refine z_gtI ?_ | refine z_geI ?_ | refine z_maxI ?_ | refine z_minI ?_ | refine z_eqI ?_ | refine z_eqB ?_ | refine Eq.mpr wp_isi ?_ | refine z_neI ?_ | refine z_eqS ?_ | refine z_neS ?_ | refine z_lenG ?_ | refine z_lenGT ?_ | refine z_lenL ?_ | refine z_lenT ?_ | refine z_lenO ?_ | refine z_lenS (by omega) ?_ | refine z_slHi (by omega) ?_ | refine z_slLo (by omega) ?_ | refine z_slB (by omega) ?_ | refine z_addS (by with_unfolding_all ((try simp only [len_app]); omega)) ?_ | refine z_itL ?_ | refine z_itT ?_ | refine z_itS ?_ | refine z_itgL ?_ | refine z_itgT ?_ | refine z_call ?_ | refine z_cw (by with_unfolding_all rfl) (by simp only [List.map_nil, List.append_nil]; rfl) ?_ | refine z_back (by with_unfolding_all rfl) (by simp only [giveA, List.length_cons, List.length_nil, List.take_succ_cons, List.take_zero, List.getElem?_cons_zero, List.getElem?_cons_succ, List.set_cons_zero, List.set_cons_succ]; with_unfolding_all rfl) ?_ | refine z_fin (by with_unfolding_all rfl) ?_)
              exact ⟨rfl, _, hz, rfl⟩
        · rintro fl g ⟨rfl, z, hz, rfl⟩
          repeat (with_reducible first | refine z_lenOk (by with_unfolding_all rfl) ?_ | refine Eq.mpr optW_some ?_ | refine Eq.mpr fw_ok ?_ | refine Eq.mpr wp_seq ?_ | refine Eq.mpr wp_asg ?_ | refine Eq.mpr wp_retM ?_ | refine Eq.mpr wp_if ?_ | refine Eq.mpr wp_tst ?_ | refine Eq.mpr wp_op ?_ | refine Eq.mpr wp_cons ?_ | refine Eq.mpr wp_d ?_ | refine Eq.mpr wp_ret ?_ | refine Eq.mpr wp_valA ?_ | refine Eq.mpr wp_bd ?_ | refine Eq.mpr wp_andV ?_ | refine Eq.mpr wp_orV ?_ | refine Eq.mpr wp_notV ?_ | refine Eq.mpr wp_notZ ?_ | refine Eq.mpr wp_andZ ?_ | refine Eq.mpr wp_orZ ?_ | refine Eq.mpr wp_lst ?_ | refine Eq.mpr wp_tup ?_ | refine Eq.mpr wp_drop ?_ | refine Eq.mpr wp_bl ?_ | refine Eq.mpr wp_ch ?_ | refine Eq.mpr wp_slLh ?_ | refine Eq.mpr wp_up ?_ | refine Eq.mpr wp_join ?_ | refine Eq.mpr wp_comp ?_ | refine Eq.mpr wp_vw ?_ | refine Eq.mpr wp_opt ?_ | refine z_rd (by with_unfolding_all rfl) ?_ | refine z_pk (by with_unfolding_all rfl) ?_ | refine z_mv (by with_unfolding_all rfl) (by simp only [restG, wipeG, List.set_cons_zero, List.set_cons_succ, List.getElem?_cons_zero, List.getElem?_cons_succ, Option.getD_some]; with_unfolding_all rfl) ?_ | refine z_fz (by with_unfolding_all rfl) ?_ | refine z_fzL (by with_unfolding_all rfl) (by with_unfolding_all rfl) (by simp only [restG, wipeG, List.set_cons_zero, List.set_cons_succ, List.getElem?_cons_zero, List.getElem?_cons_succ, Option.getD_some]; with_unfolding_all rfl) ?_ | refine z_set (by simp only [restG, wipeG, List.set_cons_zero, List.set_cons_succ, List.getElem?_cons_zero, List.getElem?_cons_succ, Option.getD_some]; with_unfolding_all rfl) ?_ | refine z_sl (by with_unfolding_all rfl) ?_ | refine z_addI ?_ | refine z_subI ?_ | refine z_mulI (by first | exact mulC_l | exact mulC_r) ?_ | refine z_divI (by omega) (by omega) ?_ | refine z_modI (by omega) ?_ | refine z_powI (by with_unfolding_all rfl) ?_ | refine z_negI ?_ | refine z_ltI ?_ | refine z_leI ?_ | refine z_gtI ?_ | refine z_geI ?_ | refine z_maxI ?_ | refine z_minI ?_ | refine z_eqI ?_ | refine z_eqB ?_ | refine Eq.mpr wp_isi ?_ | refine z_neI ?_ | refine z_eqS ?_ | refine z_neS ?_ | refine z_lenG ?_ | refine z_lenGT ?_ | refine z_lenL ?_ | refine z_lenT ?_ | refine z_lenO ?_ | refine z_lenS (by omega) ?_ | refine z_slHi (by omega) ?_ | refine z_slLo (by omega) ?_ | refine z_slB (by omega) ?_ | refine z_addS (by with_unfolding_all ((try simp only [len_app]); omega)) ?_ | refine z_itL ?_ | refine z_itT ?_ | refine z_itS ?_ | refine z_itgL ?_ | refine z_itgT ?_ | refine z_call ?_ | refine z_cw (by with_unfolding_all rfl) (by simp only [List.map_nil, List.append_nil]; rfl) ?_ | refine z_back (by with_unfolding_all rfl) (by simp only [giveA, List.length_cons, List.length_nil, List.take_succ_cons, List.take_zero, List.getElem?_cons_zero, List.getElem?_cons_succ, List.set_cons_zero, List.set_cons_succ]; with_unfolding_all rfl) ?_ | refine z_fin (by with_unfolding_all rfl) ?_)
          exact k _ _ _ hz
theorem len_cut1 (z : Str) (n : Nat) : (cutS z (some (n : Int)) (some ((n : Int) + 1))).length ≤ 1 := by
  have h2 : ∀ (l : List Nat) (k : Nat), ((l.take k).toArray).size ≤ k := fun l k => by simp; omega
  refine Nat.le_trans (h2 _ _) ?_
  show HT.sIx z.length z.length (some ((n : Int) + 1)) - HT.sIx z.length 0 (some (n : Int)) ≤ 1
  have e : ((n : Int) + 1) = ((n + 1 : Nat) : Int) := by omega
  rw [e, HT.sIx_nat, HT.sIx_nat]
  omega
theorem fw_other {c s : Int} {w : Str} (hw : w.length ≤ 100) {A : O → List O → Prop} {B : Exn → Prop} (k : ∀ (z : Str) (c s : Int), z.length ≤ 2 * w.length + 10 → A (.d (.str z)) [.lst [.d (.int c), .d (.int s)], .d (.str w)]) : FW (f_law_other [.lst [.d (.int c), .d (.int s)], .d (.str w)]) A B := by
  have lS : (Str.ofString " !\"#$&'()*+,-./0123456789:;<=>?@ABCDEFGHIJKLMNOPQRSTUVWXYZ[\\]^_`abcdefghijklmnopqrstuvwxyz{|}~\n").length = 95 := by decide
  have lA : (Str.ofString "abcdefgh").length = 8 := by decide
  have lE : (Str.ofString "").length = 0 := by decide
  refine z_run rfl rfl (by simp only [List.map_cons, List.map_nil, List.cons_append, List.nil_append, Nat.reduceSub, List.replicate_succ, List.replicate_zero]; rfl) ?_
  unfold g_law_other
  repeat (with_reducible first | refine z_lenOk (by with_unfolding_all rfl) ?_ | refine Eq.mpr optW_some ?_ | refine Eq.mpr fw_ok ?_ | refine Eq.mpr wp_seq ?_ | refine Eq.mpr wp_asg ?_ | refine Eq.mpr wp_retM ?_ | refine Eq.mpr wp_if ?_ | refine Eq.mpr wp_tst ?_ | refine Eq.mpr wp_op ?_ | refine Eq.mpr wp_cons ?_ | refine Eq.mpr wp_d ?_ | refine Eq.mpr wp_ret ?_ | refine Eq.mpr wp_valA ?_ | refine Eq.mpr wp_bd ?_ | refine Eq.mpr wp_andV ?_ | refine Eq.mpr wp_orV ?_ | refine Eq.mpr wp_notV ?_ | refine Eq.mpr wp_notZ ?_ | refine Eq.mpr wp_andZ ?_ | refine Eq.mpr wp_orZ ?_ | refine Eq.mpr wp_lst ?_ | refine Eq.mpr wp_tup ?_ | refine Eq.mpr wp_drop ?_ | refine Eq.mpr wp_bl ?_ | refine Eq.mpr wp_ch ?_ | refine Eq.mpr wp_slLh ?_ | refine Eq.mpr wp_up ?_ | refine Eq.mpr wp_join ?_ | refine Eq.mpr wp_comp ?_ | refine Eq.mpr wp_vw ?_ | refine Eq.mpr wp_opt ?_ | refine z_rd (by with_unfolding_all rfl) ?_ | refine z_pk (by with_unfolding_all rfl) ?_ | refine z_mv (by with_unfolding_all rfl) (by simp only [restG, wipeG, List.set_cons_zero, List.set_cons_succ, List.getElem?_cons_zero, List.getElem?_cons_succ, Option.getD_some]; with_unfolding_all rfl) ?_ | refine z_fz (by with_unfolding_all rfl) ?_ | refine z_fzL (by with_unfolding_all rfl) (by with_unfolding_all rfl) (by simp only [restG, wipeG, List.set_cons_zero, List.set_cons_succ, List.getElem?_cons_zero, List.getElem?_cons_succ, Option.getD_some]; with_unfolding_all rfl) ?_ | refine z_set (by simp only [restG, wipeG, List.set_cons_zero, List.set_cons_succ, List.getElem?_cons_zero, List.getElem?_cons_succ, Option.getD_some]; with_unfolding_all rfl) ?_ | refine z_sl (by with_unfolding_all rfl) ?_ | refine z_addI ?_ | refine z_subI ?_ | refine z_mulI (by first | exact mulC_l | exact mulC_r) ?_ | refine z_divI (by omega) (by omega) ?_ | refine z_modI (by omega) ?_ | refine z_powI (by with_unfolding_all rfl) ?_ | refine z_negI ?_ | refine z_ltI ?_ | refine z_leI ?_ | refine z_gtI ?_ | refine z_geI ?_ | refine z_maxI ?_ | refine z_minI ?_ | refine z_eqI ?_ | refine z_eqB ?_ | refine Eq.mpr wp_isi ?_ | refine z_neI ?_ | refine z_eqS ?_ | refine z_neS ?_ | refine z_lenG ?_ | refine z_lenGT ?_ | refine z_lenL ?_ | refine z_lenT ?_ | refine z_lenO ?_ | refine z_lenS (by omega) ?_ | refine z_slHi (by omega) ?_ | refine z_slLo (by omega) ?_ | refine z_slB (by omega) ?_ | refine z_addS (by with_unfolding_all ((try simp only [len_app]); omega)) ?_ | refine z_itL ?_ | refine z_itT ?_ | refine z_itS ?_ | refine z_itgL ?_ | refine z_itgT ?_ | refine z_call ?_ | refine z_cw (by with_unfolding_all rfl) (by simp only [List.map_nil, List.append_nil]; rfl) ?_ | refine z_back (by with_unfolding_all rfl) (by simp only [giveA, List.length_cons, List.length_nil, List.take_succ_cons, List.take_zero, List.getElem?_cons_zero, List.getElem?_cons_succ, List.set_cons_zero, List.set_cons_succ]; with_unfolding_all rfl) ?_ | refine z_fin (by with_unfolding_all rfl) ?_)
  (refine fw_tk ⟨_, _, rfl⟩ (by omega) (by omega) fun m c s h0 h1 => ?_); repeat (with_reducible first | refine z_lenOk (by with_unfolding_all rfl) ?_ | refine Eq.mpr optW_some ?_ | refine Eq.mpr fw_ok ?_ | refine Eq.mpr wp_seq ?_ | refine Eq.mpr wp_asg ?_ | refine Eq.mpr wp_retM ?_ | refine Eq.mpr wp_if ?_ | refine Eq.mpr wp_tst ?_ | refine Eq.mpr wp_op ?_ | refine Eq.mpr wp_cons ?_ | refine Eq.mpr wp_d ?_ | refine Eq.mpr wp_ret ?_ | refine Eq.mpr wp_valA ?_ | refine Eq.mpr wp_bd ?_ | refine Eq.mpr wp_andV ?_ | refine Eq.mpr wp_orV ?_ | refine Eq.mpr wp_notV ?_ | refine Eq.mpr wp_notZ ?_ | refine Eq.mpr wp_andZ ?_ | refine Eq.mpr wp_orZ ?_ | refine Eq.mpr wp_lst ?_ | refine Eq.mpr wp_tup ?_ | refine Eq.mpr wp_drop ?_ | refine Eq.mpr wp_bl ?_ | refine Eq.mpr wp_ch ?_ | refine Eq.mpr wp_slLh ?_ | refine Eq.mpr wp_up ?_ | refine Eq.mpr wp_join ?_ | refine Eq.mpr wp_comp ?_ | refine Eq.mpr wp_vw ?_ | refine Eq.mpr wp_opt ?_ | refine z_rd (by with_unfolding_all rfl) ?_ | refine z_pk (by with_unfolding_all rfl) ?_ | refine z_mv (by with_unfolding_all rfl) (by simp only [restG, wipeG, List.set_cons_zero, List.set_cons_succ, List.getElem?_cons_zero, List.getElem?_cons_succ, Option.getD_some]; with_unfolding_all rfl) ?_ | refine z_fz (by with_unfolding_all rfl) ?_ | refine z_fzL (by with_unfolding_all rfl) (by with_unfolding_all rfl) (by simp only [restG, wipeG, List.set_cons_zero, List.set_cons_succ, List.getElem?_cons_zero, List.getElem?_cons_succ, Option.getD_some]; with_unfolding_all rfl) ?_ | refine z_set (by simp only [restG, wipeG, List.set_cons_zero, List.set_cons_succ, List.getElem?_cons_zero, List.getElem?_cons_succ, Option.getD_some]; with_unfolding_all rfl) ?_ | refine z_sl (by with_unfolding_all rfl) ?_ | refine z_addI ?_ | refine z_subI ?_ | refine z_mulI (by first | exact mulC_l | exact mulC_r) ?_ | refine z_divI (by omega) (by omega) ?_ | refine z_modI (by omega) ?_ | refine z_powI (by with_unfolding_all rfl) ?_ | refine z_negI ?_ | refine z_ltI ?_ | refine z_leI ?_ | refine z_gtI ?_ | refine z_geI ?_ | refine z_maxI ?_ | refine z_minI ?_ | refine z_eqI ?_ | refine z_eqB ?_ | refine Eq.mpr wp_isi ?_ | refine z_neI ?_ | refine z_eqS ?_ | refine z_neS ?_ | refine z_lenG ?_ | refine z_lenGT ?_ | refine z_lenL ?_ | refine z_lenT ?_ | refine z_lenO ?_ | refine z_lenS (by omega) ?_ | refine z_slHi (by omega) ?_ | refine z_slLo (by omega) ?_ | refine z_slB (by omega) ?_ | refine z_addS (by with_unfolding_all ((try simp only [len_app]); omega)) ?_ | refine z_itL ?_ | refine z_itT ?_ | refine z_itS ?_ | refine z_itgL ?_ | refine z_itgT ?_ | refine z_call ?_ | refine z_cw (by with_unfolding_all rfl) (by simp only [List.map_nil, List.append_nil]; rfl) ?_ | refine z_back (by with_unfolding_all rfl) (by simp only [giveA, List.length_cons, List.length_nil, List.take_succ_cons, List.take_zero, List.getElem?_cons_zero, List.getElem?_cons_succ, List.set_cons_zero, List.set_cons_succ]; with_unfolding_all rfl) ?_ | refine z_fin (by with_unfolding_all rfl) ?_)
  refine optW_ixS (by omega) h0 h1 fun q _ => ?_
  have l4 : (⟨#[q]⟩ : Str).length = 1 := rfl
  repeat (with_reducible first | refine z_lenOk (by with_unfolding_all rfl) ?_ | refine Eq.mpr optW_some ?_ | refine Eq.mpr fw_ok ?_ | refine Eq.mpr wp_seq ?_ | refine Eq.mpr wp_asg ?_ | refine Eq.mpr wp_retM ?_ | refine Eq.mpr wp_if ?_ | refine Eq.mpr wp_tst ?_ | refine Eq.mpr wp_op ?_ | refine Eq.mpr wp_cons ?_ | refine Eq.mpr wp_d ?_ | refine Eq.mpr wp_ret ?_ | refine Eq.mpr wp_valA ?_ | refine Eq.mpr wp_bd ?_ | refine Eq.mpr wp_andV ?_ | refine Eq.mpr wp_orV ?_ | refine Eq.mpr wp_notV ?_ | refine Eq.mpr wp_notZ ?_ | refine Eq.mpr wp_andZ ?_ | refine Eq.mpr wp_orZ ?_ | refine Eq.mpr wp_lst ?_ | refine Eq.mpr wp_tup ?_ | refine Eq.mpr wp_drop ?_ | refine Eq.mpr wp_bl ?_ | refine Eq.mpr wp_ch ?_ | refine Eq.mpr wp_slLh ?_ | refine Eq.mpr wp_up ?_ | refine Eq.mpr wp_join ?_ | refine Eq.mpr wp_comp ?_ | refine Eq.mpr wp_vw ?_ | refine Eq.mpr wp_opt ?_ | refine z_rd (by with_unfolding_all rfl) ?_ | refine z_pk (by with_unfolding_all rfl) ?_ | refine z_mv (by with_unfolding_all rfl) (by simp only [restG, wipeG, List.set_cons_zero, List.set_cons_succ, List.getElem?_cons_zero, List.getElem?_cons_succ, Option.getD_some]; with_unfolding_all rfl) ?_ | refine z_fz (by with_unfolding_all rfl) ?_ | refine z_fzL (by with_unfolding_all rfl) (by with_unfolding_all rfl) (by simp only [restG, wipeG, List.set_cons_zero, List.set_cons_succ, List.getElem?_cons_zero, List.getElem?_cons_succ, Option.getD_some]; with_unfolding_all rfl) ?_ | refine z_set (by simp only [restG, wipeG, List.set_cons_zero, List.set_cons_succ, List.getElem?_cons_zero, List.getElem?_cons_succ, Option.getD_some]; with_unfolding_all rfl) ?_ | refine z_sl (by with_unfolding_all rfl) ?_ | refine z_addI ?_ | refine z_subI ?_ | refine z_mulI (by first | exact mulC_l | exact mulC_r) ?_ | refine z_divI (by omega) (by omega) ?_ | refine z_modI (by omega) ?_ | refine z_powI (by with_unfolding_all rfl) ?_ | refine z_negI ?_ | refine z_ltI ?_ | refine z_leI ?_ | refine z_gtI ?_ | refine z_geI ?_ | refine z_maxI ?_ | refine z_minI ?_ | refine z_eqI ?_ | refine z_eqB ?_ | refine Eq.mpr wp_isi ?_ | refine z_neI ?_ | refine z_eqS ?_ | refine z_neS ?_ | refine z_lenG ?_ | refine z_lenGT ?_ | refine z_lenL ?_ | refine z_lenT ?_ | refine z_lenO ?_ | refine z_lenS (by omega) ?_ | refine z_slHi (by omega) ?_ | refine z_slLo (by omega) ?_ | refine z_slB (by omega) ?_ | refine z_addS (by with_unfolding_all ((try simp only [len_app]); omega)) ?_ | refine z_itL ?_ | refine z_itT ?_ | refine z_itS ?_ | refine z_itgL ?_ | refine z_itgT ?_ | refine z_call ?_ | refine z_cw (by with_unfolding_all rfl) (by simp only [List.map_nil, List.append_nil]; rfl) ?_ | refine z_back (by with_unfolding_all rfl) (by simp only [giveA, List.length_cons, List.length_nil, List.take_succ_cons, List.take_zero, List.getElem?_cons_zero, List.getElem?_cons_succ, List.set_cons_zero, List.set_cons_succ]; with_unfolding_all rfl) ?_ | refine z_fin (by with_unfolding_all rfl) ?_)
  (refine fw_tk ⟨_, _, rfl⟩ (by omega) (by omega) fun at1 c s h2 h3 => ?_); repeat (with_reducible first | refine z_lenOk (by with_unfolding_all rfl) ?_ | refine Eq.mpr optW_some ?_ | refine Eq.mpr fw_ok ?_ | refine Eq.mpr wp_seq ?_ | refine Eq.mpr wp_asg ?_ | refine Eq.mpr wp_retM ?_ | refine Eq.mpr wp_if ?_ | refine Eq.mpr wp_tst ?_ | refine Eq.mpr wp_op ?_ | refine Eq.mpr wp_cons ?_ | refine Eq.mpr wp_d ?_ | refine Eq.mpr wp_ret ?_ | refine Eq.mpr wp_valA ?_ | refine Eq.mpr wp_bd ?_ | refine Eq.mpr wp_andV ?_ | refine Eq.mpr wp_orV ?_ | refine Eq.mpr wp_notV ?_ | refine Eq.mpr wp_notZ ?_ | refine Eq.mpr wp_andZ ?_ | refine Eq.mpr wp_orZ ?_ | refine Eq.mpr wp_lst ?_ | refine Eq.mpr wp_tup ?_ | refine Eq.mpr wp_drop ?_ | refine Eq.mpr wp_bl ?_ | refine Eq.mpr wp_ch ?_ | refine Eq.mpr wp_slLh ?_ | refine Eq.mpr wp_up ?_ | refine Eq.mpr wp_join ?_ | refine Eq.mpr wp_comp ?_ | refine Eq.mpr wp_vw ?_ | refine Eq.mpr wp_opt ?_ | refine z_rd (by with_unfolding_all rfl) ?_ | refine z_pk (by with_unfolding_all rfl) ?_ | refine z_mv (by with_unfolding_all rfl) (by simp only [restG, wipeG, List.set_cons_zero, List.set_cons_succ, List.getElem?_cons_zero, List.getElem?_cons_succ, Option.getD_some]; with_unfolding_all rfl) ?_ | refine z_fz (by with_unfolding_all rfl) ?_ | refine z_fzL (by with_unfolding_all rfl) (by with_unfolding_all rfl) (by simp only [restG, wipeG, List.set_cons_zero, List.set_cons_succ, List.getElem?_cons_zero, List.getElem?_cons_succ, Option.getD_some]; with_unfolding_all rfl) ?_ | refine z_set (by simp only [restG, wipeG, List.set_cons_zero, List.set_cons_succ, List.getElem?_cons_zero, List.getElem?_cons_succ, Option.getD_some]; with_unfolding_all rfl) ?_ | refine z_sl (by with_unfolding_all rfl) ?_ | refine z_addI ?_ | refine z_subI ?_ | refine z_mulI (by first | exact mulC_l | exact mulC_r) ?_ | refine z_divI (by omega) (by omega) ?_ | refine z_modI (by omega) ?_ | refine z_powI (by with_unfolding_all rfl) ?_ | refine z_negI ?_ | refine z_ltI ?_ | refine z_leI ?_ | refine z_gtI ?_ | refine z_geI ?_ | refine z_maxI ?_ | refine z_minI ?_ | refine z_eqI ?_ | refine z_eqB ?_ | refine Eq.mpr wp_isi ?_ | refine z_neI ?_ | refine z_eqS ?_ | refine z_neS ?_ | refine z_lenG ?_ | refine z_lenGT ?_ | refine z_lenL ?_ | refine z_lenT ?_ | refine z_lenO ?_ | refine z_lenS (by omega) ?_ | refine z_slHi (by omega) ?_ | refine z_slLo (by omega) ?_ | refine z_slB (by omega) ?_ | refine z_addS (by with_unfolding_all ((try simp only [len_app]); omega)) ?_ | refine z_itL ?_ | refine z_itT ?_ | refine z_itS ?_ | refine z_itgL ?_ | refine z_itgT ?_ | refine z_call ?_ | refine z_cw (by with_unfolding_all rfl) (by simp only [List.map_nil, List.append_nil]; rfl) ?_ | refine z_back (by with_unfolding_all rfl) (by simp only [giveA, List.length_cons, List.length_nil, List.take_succ_cons, List.take_zero, List.getElem?_cons_zero, List.getElem?_cons_succ, List.set_cons_zero, List.set_cons_succ]; with_unfolding_all rfl) ?_ | refine z_fin (by with_unfolding_all rfl) ?_)
  (refine fw_tk ⟨_, _, rfl⟩ (by omega) (by omega) fun fm c s h4 h5 => ?_); repeat (with_reducible first | refine z_lenOk (by with_unfolding_all rfl) ?_ | refine Eq.mpr optW_some ?_ | refine Eq.mpr fw_ok ?_ | refine Eq.mpr wp_seq ?_ | refine Eq.mpr wp_asg ?_ | refine Eq.mpr wp_retM ?_ | refine Eq.mpr wp_if ?_ | refine Eq.mpr wp_tst ?_ | refine Eq.mpr wp_op ?_ | refine Eq.mpr wp_cons ?_ | refine Eq.mpr wp_d ?_ | refine Eq.mpr wp_ret ?_ | refine Eq.mpr wp_valA ?_ | refine Eq.mpr wp_bd ?_ | refine Eq.mpr wp_andV ?_ | refine Eq.mpr wp_orV ?_ | refine Eq.mpr wp_notV ?_ | refine Eq.mpr wp_notZ ?_ | refine Eq.mpr wp_andZ ?_ | refine Eq.mpr wp_orZ ?_ | refine Eq.mpr wp_lst ?_ | refine Eq.mpr wp_tup ?_ | refine Eq.mpr wp_drop ?_ | refine Eq.mpr wp_bl ?_ | refine Eq.mpr wp_ch ?_ | refine Eq.mpr wp_slLh ?_ | refine Eq.mpr wp_up ?_ | refine Eq.mpr wp_join ?_ | refine Eq.mpr wp_comp ?_ | refine Eq.mpr wp_vw ?_ | refine Eq.mpr wp_opt ?_ | refine z_rd (by with_unfolding_all rfl) ?_ | refine z_pk (by with_unfolding_all rfl) ?_ | refine z_mv (by with_unfolding_all rfl) (by simp only [restG, wipeG, List.set_cons_zero, List.set_cons_succ, List.getElem?_cons_zero, List.getElem?_cons_succ, Option.getD_some]; with_unfolding_all rfl) ?_ | refine z_fz (by with_unfolding_all rfl) ?_ | refine z_fzL (by with_unfolding_all rfl) (by with_unfolding_all rfl) (by simp only [restG, wipeG, List.set_cons_zero, List.set_cons_succ, List.getElem?_cons_zero, List.getElem?_cons_succ, Option.getD_some]; with_unfolding_all rfl) ?_ | refine z_set (by simp only [restG, wipeG, List.set_cons_zero, List.set_cons_succ, List.getElem?_cons_zero, List.getElem?_cons_succ, Option.getD_some]; with_unfolding_all rfl) ?_ | refine z_sl (by with_unfolding_all rfl) ?_ | refine z_addI ?_ | refine z_subI ?_ | refine z_mulI (by first | exact mulC_l | exact mulC_r) ?_ | refine z_divI (by omega) (by omega) ?_ | refine z_modI (by omega) ?_ | refine z_powI (by with_unfolding_all rfl) ?_ | refine z_negI ?_ | refine z_ltI ?_ | refine z_leI ?_ | refine z_gtI ?_ | refine z_geI ?_ | refine z_maxI ?_ | refine z_minI ?_ | refine z_eqI ?_ | refine z_eqB ?_ | refine Eq.mpr wp_isi ?_ | refine z_neI ?_ | refine z_eqS ?_ | refine z_neS ?_ | refine z_lenG ?_ | refine z_lenGT ?_ | refine z_lenL ?_ | refine z_lenT ?_ | refine z_lenO ?_ | refine z_lenS (by omega) ?_ | refine z_slHi (by omega) ?_ | refine z_slLo (by omega) ?_ | refine z_slB (by omega) ?_ | refine z_addS (by with_unfolding_all ((try simp only [len_app]); omega)) ?_ | refine z_itL ?_ | refine z_itT ?_ | refine z_itS ?_ | refine z_itgL ?_ | refine z_itgT ?_ | refine z_call ?_ | refine z_cw (by with_unfolding_all rfl) (by simp only [List.map_nil, List.append_nil]; rfl) ?_ | refine z_back (by with_unfolding_all rfl) (by simp only [giveA, List.length_cons, List.length_nil, List.take_succ_cons, List.take_zero, List.getElem?_cons_zero, List.getElem?_cons_succ, List.set_cons_zero, List.set_cons_succ]; with_unfolding_all rfl) ?_ | refine z_fin (by with_unfolding_all rfl) ?_)
  have l1 := len_cut w none (some at1)
  have l2 := len_cut w (some at1) none
  have l3 := len_cut w (some (at1 + 1)) none
  have l6 : (cutS w (some at1) (some (at1 + 1))).length ≤ 1 := by
    obtain ⟨n, rfl⟩ := Int.eq_ofNat_of_zero_le h2
    exact len_cut1 w n
  have l7 := PyProof.Rows.len_upper (cutS w (some at1) (some (at1 + 1)))
  repeat (with_reducible first | refine z_lenOk (by with_unfolding_all rfl) ?_ | refine Eq.mpr optW_some ?_ | refine Eq.mpr fw_ok ?_ | refine Eq.mpr wp_seq ?_ | refine Eq.mpr wp_asg ?_ | refine Eq.mpr wp_retM ?_ | refine Eq.mpr wp_if ?_ | refine Eq.mpr wp_tst ?_ | refine Eq.mpr wp_op ?_ | refine Eq.mpr wp_cons ?_ | refine Eq.mpr wp_d ?_ | refine Eq.mpr wp_ret ?_ | refine Eq.mpr wp_valA ?_ | refine Eq.mpr wp_bd ?_ | refine Eq.mpr wp_andV ?_ | refine Eq.mpr wp_orV ?_ | refine Eq.mpr wp_notV ?_ | refine Eq.mpr wp_notZ ?_ | refine Eq.mpr wp_andZ ?_ | refine Eq.mpr wp_orZ ?_ | refine Eq.mpr wp_lst ?_ | refine Eq.mpr wp_tup ?_ | refine Eq.mpr wp_drop ?_ | refine Eq.mpr wp_bl ?_ | refine Eq.mpr wp_ch ?_ | refine Eq.mpr wp_slLh ?_ | refine Eq.mpr wp_up ?_ | refine Eq.mpr wp_join ?_ | refine Eq.mpr wp_comp ?_ | refine Eq.mpr wp_vw ?_ | refine Eq.mpr wp_opt ?_ | refine z_rd (by with_unfolding_all rfl) ?_ | refine z_pk (by with_unfolding_all rfl) ?_ | refine z_mv (by with_unfolding_all rfl) (by simp only [restG, wipeG, List.set_cons_zero, List.set_cons_succ, List.getElem?_cons_zero, List.getElem?_cons_succ, Option.getD_some]; with_unfolding_all rfl) ?_ | refine z_fz (by with_unfolding_all rfl) ?_ | refine z_fzL (by with_unfolding_all rfl) (by with_unfolding_all rfl) (by simp only [restG, wipeG, List.set_cons_zero, List.set_cons_succ, List.getElem?_cons_zero, List.getElem?_cons_succ, Option.getD_some]; with_unfolding_all rfl) ?_ | refine z_set (by simp only [restG, wipeG, List.set_cons_zero, List.set_cons_succ, List.getElem?_cons_zero, List.getElem?_cons_succ, Option.getD_some]; with_unfolding_all rfl) ?_ | refine z_sl (by with_unfolding_all rfl) ?_ | refine z_addI ?_ | refine z_subI ?_ | refine z_mulI (by first | exact mulC_l | exact mulC_r) ?_ | refine z_divI (by omega) (by omega) ?_ | refine z_modI (by omega) ?_ | refine z_powI (by with_unfolding_all rfl) ?_ | refine z_negI ?_ | refine z_ltI ?_ | refine z_leI ?_ | refine z_gtI ?_ | refine z_geI ?_ | refine z_maxI ?_ | refine z_minI ?_ | refine z_eqI ?_ | refine z_eqB ?_ | refine Eq.mpr wp_isi ?_ | refine z_neI ?_ | refine z_eqS ?_ | refine z_neS ?_ | refine z_lenG ?_ | refine z_lenGT ?_ | refine z_lenL ?_ | refine z_lenT ?_ | refine z_lenO ?_ | refine z_lenS (by omega) ?_ | refine z_slHi (by omega) ?_ | refine z_slLo (by omega) ?_ | refine z_slB (by omega) ?_ | refine z_addS (by with_unfolding_all ((try simp only [len_app]); omega)) ?_ | refine z_itL ?_ | refine z_itT ?_ | refine z_itS ?_ | refine z_itgL ?_ | refine z_itgT ?_ | refine z_call ?_ | refine z_cw (by with_unfolding_all rfl) (by simp only [List.map_nil, List.append_nil]; rfl) ?_ | refine z_back (by with_unfolding_all rfl) (by simp only [giveA, List.length_cons, List.length_nil, List.take_succ_cons, List.take_zero, List.getElem?_cons_zero, List.getElem?_cons_succ, List.set_cons_zero, List.set_cons_succ]; with_unfolding_all rfl) ?_ | refine z_fin (by with_unfolding_all rfl) ?_)
  refine ⟨by simp; omega, ?_⟩
  repeat (with_reducible first | refine z_lenOk (by with_unfolding_all rfl) ?_ | refine Eq.mpr optW_some ?_ | refine Eq.mpr fw_ok ?_ | refine Eq.mpr wp_seq ?_ | refine Eq.mpr wp_asg ?_ | refine Eq.mpr wp_retM ?_ | refine Eq.mpr wp_if ?_ | refine Eq.mpr wp_tst ?_ | refine Eq.mpr wp_op ?_ | refine Eq.mpr wp_cons ?_ | refine Eq.mpr wp_d ?_ | refine Eq.mpr wp_ret ?_ | refine Eq.mpr wp_valA ?_ | refine Eq.mpr wp_bd ?_ | refine Eq.mpr wp_andV ?_ | refine Eq.mpr wp_orV ?_ | refine Eq.mpr wp_notV ?_ | refine Eq.mpr wp_notZ ?_ | refine Eq.mpr wp_andZ ?_ | refine Eq.mpr wp_orZ ?_ | refine Eq.mpr wp_lst ?_ | refine Eq.mpr wp_tup ?_ | refine Eq.mpr wp_drop ?_ | refine Eq.mpr wp_bl ?_ | refine Eq.mpr wp_ch ?_ | refine Eq.mpr wp_slLh ?_ | refine Eq.mpr wp_up ?_ | refine Eq.mpr wp_join ?_ | refine Eq.mpr wp_comp ?_ | refine Eq.mpr wp_vw ?_ | refine Eq.mpr wp_opt ?_ | refine z_rd (by with_unfolding_all rfl) ?_ | refine z_pk (by with_unfolding_all rfl) ?_ | refine z_mv (by with_unfolding_all rfl) (by simp only [restG, wipeG, List.set_cons_zero, List.set_cons_succ, List.getElem?_cons_zero, List.getElem?_cons_succ, Option.getD_some]; with_unfolding_all rfl) ?_ | refine z_fz (by with_unfolding_all rfl) ?_ | refine z_fzL (by with_unfolding_all rfl) (by with_unfolding_all rfl) (by simp only [restG, wipeG, List.set_cons_zero, List.set_cons_succ, List.getElem?_cons_zero, List.getElem?_cons_succ, Option.getD_some]; with_unfolding_all rfl) ?_ | refine z_set (by simp only [restG, wipeG, List.set_cons_zero, List.set_cons_succ, List.getElem?_cons_zero, List.getElem?_cons_succ, Option.getD_some]; with_unfolding_all rfl) ?_ | refine z_sl (by with_unfolding_all rfl) ?_ | refine z_addI ?_ | refine z_subI ?_ | refine z_mulI (by first | exact mulC_l | exact mulC_r) ?_ | refine z_divI (by omega) (by omega) ?_ | refine z_modI (by omega) ?_ | refine z_powI (by with_unfolding_all rfl) ?_ | refine z_negI ?_ | refine z_ltI ?_ | refine z_leI ?_ | refine z_gtI ?_ | refine z_geI ?_ | refine z_maxI ?_ | refine z_minI ?_ | refine z_eqI ?_ | refine z_eqB ?_ | refine Eq.mpr wp_isi ?_ | refine z_neI ?_ | refine z_eqS ?_ | refine z_neS ?_ | refine z_lenG ?_ | refine z_lenGT ?_ | refine z_lenL ?_ | refine z_lenT ?_ | refine z_lenO ?_ | refine z_lenS (by omega) ?_ | refine z_slHi (by omega) ?_ | refine z_slLo (by omega) ?_ | refine z_slB (by omega) ?_ | refine z_addS (by with_unfolding_all ((try simp only [len_app]); omega)) ?_ | refine z_itL ?_ | refine z_itT ?_ | refine z_itS ?_ | refine z_itgL ?_ | refine z_itgT ?_ | refine z_call ?_ | refine z_cw (by with_unfolding_all rfl) (by simp only [List.map_nil, List.append_nil]; rfl) ?_ | refine z_back (by with_unfolding_all rfl) (by simp only [giveA, List.length_cons, List.length_nil, List.take_succ_cons, List.take_zero, List.getElem?_cons_zero, List.getElem?_cons_succ, List.set_cons_zero, List.set_cons_succ]; with_unfolding_all rfl) ?_ | refine z_fin (by with_unfolding_all rfl) ?_)
  (refine fw_tk ⟨_, _, rfl⟩ (by omega) (by omega) fun r c s h6 h7 => ?_); repeat (with_reducible first | refine z_lenOk (by with_unfolding_all rfl) ?_ | refine Eq.mpr optW_some ?_ | refine Eq.mpr fw_ok ?_ | refine Eq.mpr wp_seq ?_ | refine Eq.mpr wp_asg ?_ | refine Eq.mpr wp_retM ?_ | refine Eq.mpr wp_if ?_ | refine Eq.mpr wp_tst ?_ | refine Eq.mpr wp_op ?_ | refine Eq.mpr wp_cons ?_ | refine Eq.mpr wp_d ?_ | refine Eq.mpr wp_ret ?_ | refine Eq.mpr wp_valA ?_ | refine Eq.mpr wp_bd ?_ | refine Eq.mpr wp_andV ?_ | refine Eq.mpr wp_orV ?_ | refine Eq.mpr wp_notV ?_ | refine Eq.mpr wp_notZ ?_ | refine Eq.mpr wp_andZ ?_ | refine Eq.mpr wp_orZ ?_ | refine Eq.mpr wp_lst ?_ | refine Eq.mpr wp_tup ?_ | refine Eq.mpr wp_drop ?_ | refine Eq.mpr wp_bl ?_ | refine Eq.mpr wp_ch ?_ | refine Eq.mpr wp_slLh ?_ | refine Eq.mpr wp_up ?_ | refine Eq.mpr wp_join ?_ | refine Eq.mpr wp_comp ?_ | refine Eq.mpr wp_vw ?_ | refine Eq.mpr wp_opt ?_ | refine z_rd (by with_unfolding_all rfl) ?_ | refine z_pk (by with_unfolding_all rfl) ?_ | refine z_mv (by with_unfolding_all rfl) (by simp only [restG, wipeG, List.set_cons_zero, List.set_cons_succ, List.getElem?_cons_zero, List.getElem?_cons_succ, Option.getD_some]; with_unfolding_all rfl) ?_ | refine z_fz (by with_unfolding_all rfl) ?_ | refine z_fzL (by with_unfolding_all rfl) (by with_unfolding_all rfl) (by simp only [restG, wipeG, List.set_cons_zero, List.set_cons_succ, List.getElem?_cons_zero, List.getElem?_cons_succ, Option.getD_some]; with_unfolding_all rfl) ?_ | refine z_set (by simp only [restG, wipeG, List.set_cons_zero, List.set_cons_succ, List.getElem?_cons_zero, List.getElem?_cons_succ, Option.getD_some]; with_unfolding_all rfl) ?_ | refine z_sl (by with_unfolding_all rfl) ?_ | refine z_addI ?_ | refine z_subI ?_ | refine z_mulI (by first | exact mulC_l | exact mulC_r) ?_ | refine z_divI (by omega) (by omega) ?_ | refine z_modI (by omega) ?_ | refine z_powI (by with_unfolding_all rfl) ?_ | refine z_negI ?_ | refine z_ltI ?_ | refine z_leI ?_ | refine z_gtI ?_ | refine z_geI ?_ | refine z_maxI ?_ | refine z_minI ?_ | refine z_eqI ?_ | refine z_eqB ?_ | refine Eq.mpr wp_isi ?_ | refine z_neI ?_ | refine z_eqS ?_ | refine z_neS ?_ | refine z_lenG ?_ | refine z_lenGT ?_ | refine z_lenL ?_ | refine z_lenT ?_ | refine z_lenO ?_ | refine z_lenS (by omega) ?_ | refine z_slHi (by omega) ?_ | refine z_slLo (by omega) ?_ | refine z_slB (by omega) ?_ | refine z_addS (by with_unfolding_all ((try simp only [len_app]); omega)) ?_ | refine z_itL ?_ | refine z_itT ?_ | refine z_itS ?_ | refine z_itgL ?_ | refine z_itgT ?_ | refine z_call ?_ | refine z_cw (by with_unfolding_all rfl) (by simp only [List.map_nil, List.append_nil]; rfl) ?_ | refine z_back (by with_unfolding_all rfl) (by simp only [giveA, List.length_cons, List.length_nil, List.take_succ_cons, List.take_zero, List.getElem?_cons_zero, List.getElem?_cons_succ, List.set_cons_zero, List.set_cons_succ]; with_unfolding_all rfl) ?_ | refine z_fin (by with_unfolding_all rfl) ?_)
  have l8 : (cutS "abcdefgh" none (some r)).length ≤ 3 := by
    obtain ⟨n, rfl⟩ := Int.eq_ofNat_of_zero_le h6
    have := len_cutHi "abcdefgh" n
    omega
  repeat (with_reducible first | refine z_lenOk (by with_unfolding_all rfl) ?_ | refine Eq.mpr optW_some ?_ | refine Eq.mpr fw_ok ?_ | refine Eq.mpr wp_seq ?_ | refine Eq.mpr wp_asg ?_ | refine Eq.mpr wp_retM ?_ | refine Eq.mpr wp_if ?_ | refine Eq.mpr wp_tst ?_ | refine Eq.mpr wp_op ?_ | refine Eq.mpr wp_cons ?_ | refine Eq.mpr wp_d ?_ | refine Eq.mpr wp_ret ?_ | refine Eq.mpr wp_valA ?_ | refine Eq.mpr wp_bd ?_ | refine Eq.mpr wp_andV ?_ | refine Eq.mpr wp_orV ?_ | refine Eq.mpr wp_notV ?_ | refine Eq.mpr wp_notZ ?_ | refine Eq.mpr wp_andZ ?_ | refine Eq.mpr wp_orZ ?_ | refine Eq.mpr wp_lst ?_ | refine Eq.mpr wp_tup ?_ | refine Eq.mpr wp_drop ?_ | refine Eq.mpr wp_bl ?_ | refine Eq.mpr wp_ch ?_ | refine Eq.mpr wp_slLh ?_ | refine Eq.mpr wp_up ?_ | refine Eq.mpr wp_join ?_ | refine Eq.mpr wp_comp ?_ | refine Eq.mpr wp_vw ?_ | refine Eq.mpr wp_opt ?_ | refine z_rd (by with_unfolding_all rfl) ?_ | refine z_pk (by with_unfolding_all rfl) ?_ | refine z_mv (by with_unfolding_all rfl) (by simp only [restG, wipeG, List.set_cons_zero, List.set_cons_succ, List.getElem?_cons_zero, List.getElem?_cons_succ, Option.getD_some]; with_unfolding_all rfl) ?_ | refine z_fz (by with_unfolding_all rfl) ?_ | refine z_fzL (by with_unfolding_all rfl) (by with_unfolding_all rfl) (by simp only [restG, wipeG, List.set_cons_zero, List.set_cons_succ, List.getElem?_cons_zero, List.getElem?_cons_succ, Option.getD_some]; with_unfolding_all rfl) ?_ | refine z_set (by simp only [restG, wipeG, List.set_cons_zero, List.set_cons_succ, List.getElem?_cons_zero, List.getElem?_cons_succ, Option.getD_some]; with_unfolding_all rfl) ?_ | refine z_sl (by with_unfolding_all rfl) ?_ | refine z_addI ?_ | refine z_subI ?_ | refine z_mulI (by first | exact mulC_l | exact mulC_r) ?_ | refine z_divI (by omega) (by omega) ?_ | refine z_modI (by omega) ?_ | refine z_powI (by with_unfolding_all rfl) ?_ | refine z_negI ?_ | refine z_ltI ?_ | refine z_leI ?_ | refine z_gtI ?_ | refine z_geI ?_ | refine z_maxI ?_ | refine z_minI ?_ | refine z_eqI ?_ | refine z_eqB ?_ | refine Eq.mpr wp_isi ?_ | refine z_neI ?_ | refine z_eqS ?_ | refine z_neS ?_ | refine z_lenG ?_ | refine z_lenGT ?_ | refine z_lenL ?_ | refine z_lenT ?_ | refine z_lenO ?_ | refine z_lenS (by omega) ?_ | refine z_slHi (by omega) ?_ | refine z_slLo (by omega) ?_ | refine z_slB (by omega) ?_ | refine z_addS (by with_unfolding_all ((try simp only [len_app]); omega)) ?_ | refine z_itL ?_ | refine z_itT ?_ | refine z_itS ?_ | refine z_itgL ?_ | refine z_itgT ?_ | refine z_call ?_ | refine z_cw (by with_unfolding_all rfl) (by simp only [List.map_nil, List.append_nil]; rfl) ?_ | refine z_back (by with_unfolding_all rfl) (by simp only [giveA, List.length_cons, List.length_nil, List.take_succ_cons, List.take_zero, List.getElem?_cons_zero, List.getElem?_cons_succ, List.set_cons_zero, List.set_cons_succ]; with_unfolding_all rfl) ?_ | refine z_fin (by with_unfolding_all rfl) ?_)
  refine z_addDL rfl (by simp) ?_
  repeat (with_reducible first | refine z_lenOk (by with_unfolding_all rfl) ?_ | refine Eq.mpr optW_some ?_ | refine Eq.mpr fw_ok ?_ | refine Eq.mpr wp_seq ?_ | refine Eq.mpr wp_asg ?_ | refine Eq.mpr wp_retM ?_ | refine Eq.mpr wp_if ?_ | refine Eq.mpr wp_tst ?_ | refine Eq.mpr wp_op ?_ | refine Eq.mpr wp_cons ?_ | refine Eq.mpr wp_d ?_ | refine Eq.mpr wp_ret ?_ | refine Eq.mpr wp_valA ?_ | refine Eq.mpr wp_bd ?_ | refine Eq.mpr wp_andV ?_ | refine Eq.mpr wp_orV ?_ | refine Eq.mpr wp_notV ?_ | refine Eq.mpr wp_notZ ?_ | refine Eq.mpr wp_andZ ?_ | refine Eq.mpr wp_orZ ?_ | refine Eq.mpr wp_lst ?_ | refine Eq.mpr wp_tup ?_ | refine Eq.mpr wp_drop ?_ | refine Eq.mpr wp_bl ?_ | refine Eq.mpr wp_ch ?_ | refine Eq.mpr wp_slLh ?_ | refine Eq.mpr wp_up ?_ | refine Eq.mpr wp_join ?_ | refine Eq.mpr wp_comp ?_ | refine Eq.mpr wp_vw ?_ | refine Eq.mpr wp_opt ?_ | refine z_rd (by with_unfolding_all rfl) ?_ | refine z_pk (by with_unfolding_all rfl) ?_ | refine z_mv (by with_unfolding_all rfl) (by simp only [restG, wipeG, List.set_cons_zero, List.set_cons_succ, List.getElem?_cons_zero, List.getElem?_cons_succ, Option.getD_some]; with_unfolding_all rfl) ?_ | refine z_fz (by with_unfolding_all rfl) ?_ | refine z_fzL (by with_unfolding_all rfl) (by with_unfolding_all rfl) (by simp only [restG, wipeG, List.set_cons_zero, List.set_cons_succ, List.getElem?_cons_zero, List.getElem?_cons_succ, Option.getD_some]; with_unfolding_all rfl) ?_ | refine z_set (by simp only [restG, wipeG, List.set_cons_zero, List.set_cons_succ, List.getElem?_cons_zero, List.getElem?_cons_succ, Option.getD_some]; with_unfolding_all rfl) ?_ | refine z_sl (by with_unfolding_all rfl) ?_ | refine z_addI ?_ | refine z_subI ?_ | refine z_mulI (by first | exact mulC_l | exact mulC_r) ?_ | refine z_divI (by omega) (by omega) ?_ | refine z_modI (by omega) ?_ | refine z_powI (by with_unfolding_all rfl) ?_ | refine z_negI ?_ | refine z_ltI ?_ | refine z_leI ?_ | refine z_gtI ?_ | refine z_geI ?_ | refine z_maxI ?_ | refine z_minI ?_ | refine z_eqI ?_ | refine z_eqB ?_ | refine Eq.mpr wp_isi ?_ | refine z_neI ?_ | refine z_eqS ?_ | refine z_neS ?_ | refine z_lenG ?_ | refine z_lenGT ?_ | refine z_lenL ?_ | refine z_lenT ?_ | refine z_lenO ?_ | refine z_lenS (by omega) ?_ | refine z_slHi (by omega) ?_ | refine z_slLo (by omega) ?_ | refine z_slB (by omega) ?_ | refine z_addS (by with_unfolding_all ((try simp only [len_app]); omega)) ?_ | refine z_itL ?_ | refine z_itT ?_ | refine z_itS ?_ | refine z_itgL ?_ | refine z_itgT ?_ | refine z_call ?_ | refine z_cw (by with_unfolding_all rfl) (by simp only [List.map_nil, List.append_nil]; rfl) ?_ | refine z_back (by with_unfolding_all rfl) (by simp only [giveA, List.length_cons, List.length_nil, List.take_succ_cons, List.take_zero, List.getElem?_cons_zero, List.getElem?_cons_succ, List.set_cons_zero, List.set_cons_succ]; with_unfolding_all rfl) ?_ | refine z_fin (by with_unfolding_all rfl) ?_)
  refine optW_ix rfl h4 h5 fun x hx => ?_
  have hx' : ∃ y : Str, x = .str y ∧ y.length ≤ 2 * w.length + 10 := by
    simp only [List.cons_append, List.nil_append, List.mem_cons, List.not_mem_nil, or_false] at hx
    rcases hx with h | h | h | h | h | h <;> exact ⟨_, h, by (try simp only [len_app]); omega⟩
  obtain ⟨y, rfl, hy⟩ := hx'
  repeat (with_reducible first | refine z_lenOk (by with_unfolding_all rfl) ?_ | refine Eq.mpr optW_some ?_ | refine Eq.mpr fw_ok ?_ | refine Eq.mpr wp_seq ?_ | refine Eq.mpr wp_asg ?_ | refine Eq.mpr wp_retM ?_ | refine Eq.mpr wp_if ?_ | refine Eq.mpr wp_tst ?_ | refine Eq.mpr wp_op ?_ | refine Eq.mpr wp_cons ?_ | refine Eq.mpr wp_d ?_ | refine Eq.mpr wp_ret ?_ | refine Eq.mpr wp_valA ?_ | refine Eq.mpr wp_bd ?_ | refine Eq.mpr wp_andV ?_ | refine Eq.mpr wp_orV ?_ | refine Eq.mpr wp_notV ?_ | refine Eq.mpr wp_notZ ?_ | refine Eq.mpr wp_andZ ?_ | refine Eq.mpr wp_orZ ?_ | refine Eq.mpr wp_lst ?_ | refine Eq.mpr wp_tup ?_ | refine Eq.mpr wp_drop ?_ | refine Eq.mpr wp_bl ?_ | refine Eq.mpr wp_ch ?_ | refine Eq.mpr wp_slLh ?_ | refine Eq.mpr wp_up ?_ | refine Eq.mpr wp_join ?_ | refine Eq.mpr wp_comp ?_ | refine Eq.mpr wp_vw ?_ | refine Eq.mpr wp_opt ?_ | refine z_rd (by with_unfolding_all rfl) ?_ | refine z_pk (by with_unfolding_all rfl) ?_ | refine z_mv (by with_unfolding_all rfl) (by simp only [restG, wipeG, List.set_cons_zero, List.set_cons_succ, List.getElem?_cons_zero, List.getElem?_cons_succ, Option.getD_some]; with_unfolding_all rfl) ?_ | refine z_fz (by with_unfolding_all rfl) ?_ | refine z_fzL (by with_unfolding_all rfl) (by with_unfolding_all rfl) (by simp only [restG, wipeG, List.set_cons_zero, List.set_cons_succ, List.getElem?_cons_zero, List.getElem?_cons_succ, Option.getD_some]; with_unfolding_all rfl) ?_ | refine z_set (by simp only [restG, wipeG, List.set_cons_zero, List.set_cons_succ, List.getElem?_cons_zero, List.getElem?_cons_succ, Option.getD_some]; with_unfolding_all rfl) ?_ | refine z_sl (by with_unfolding_all rfl) ?_ | refine z_addI ?_ | refine z_subI ?_ | refine z_mulI (by first | exact mulC_l | exact mulC_r) ?_ | refine z_divI (by omega) (by omega) ?_ | refine z_modI (by omega) ?_ | refine z_powI (by with_unfolding_all rfl) ?_ | refine z_negI ?_ | refine z_ltI ?_ | refine z_leI ?_ | refine z_gtI ?_ | refine z_geI ?_ | refine z_maxI ?_ | refine z_minI ?_ | refine z_eqI ?_ | refine z_eqB ?_ | refine Eq.mpr wp_isi ?_ | refine z_neI ?_ | refine z_eqS ?_ | refine z_neS ?_ | refine z_lenG ?_ | refine z_lenGT ?_ | refine z_lenL ?_ | refine z_lenT ?_ | refine z_lenO ?_ | refine z_lenS (by omega) ?_ | refine z_slHi (by omega) ?_ | refine z_slLo (by omega) ?_ | refine z_slB (by omega) ?_ | refine z_addS (by with_unfolding_all ((try simp only [len_app]); omega)) ?_ | refine z_itL ?_ | refine z_itT ?_ | refine z_itS ?_ | refine z_itgL ?_ | refine z_itgT ?_ | refine z_call ?_ | refine z_cw (by with_unfolding_all rfl) (by simp only [List.map_nil, List.append_nil]; rfl) ?_ | refine z_back (by with_unfolding_all rfl) (by simp only [giveA, List.length_cons, List.length_nil, List.take_succ_cons, List.take_zero, List.getElem?_cons_zero, List.getElem?_cons_succ, List.set_cons_zero, List.set_cons_succ]; with_unfolding_all rfl) ?_ | refine z_fin (by with_unfolding_all rfl) ?_)
  exact k _ _ _ hy
def lets : Str := "abcdefghijklmnopqrstuvwxyz"
def takB (w : Str) : Bool := takenD.any fun z => PyData.eqv z (.str w)
def nmB (w : Str) : Bool := decide (0 < w.length ∧ w.length ≤ 5) && !takB w && w.cps.toList.all fun c => decide (c ∈ lets.cps.toList)
theorem bls_map (f : Nat → Bool) (l : List Nat) : blsOf (l.map fun c => PyData.bool (f c)) = some (l.map f) := by
  induction l with
  | nil => rfl
  | cons a r ih => simp [blsOf, ih]
theorem allF_lst (f : Nat → Bool) (l : List Nat) : allF [.lst (l.map fun c => O.d (.bool (f c)))] = some (.d (.bool (l.all f))) := by
  have e : allD (l.map fun c => O.d (.bool (f c))) = some (l.map fun c => PyData.bool (f c)) := by
    have := allD_map (l.map fun c => PyData.bool (f c))
    rwa [List.map_map] at this
  simp [allF, asL, e, bls_map, List.all_map]
theorem fw_is {w : Str} (hw : w.length ≤ 1000) {A : O → List O → Prop} {B : Exn → Prop} (k : A (.d (.bool (nmB w))) [.d (.str w)]) : FW (f_is_name [.d (.str w)]) A B := by
  have hs : (signs w).length = w.length := by simp [signs, Str.length]
  refine z_run rfl rfl (by simp only [List.map_cons, List.map_nil, List.cons_append, List.nil_append, Nat.reduceSub, List.replicate_succ, List.replicate_zero]; rfl) ?_
  unfold g_is_name
  repeat (with_reducible first | refine z_lenOk (by with_unfolding_all rfl) ?_ | refine Eq.mpr optW_some ?_ | refine Eq.mpr fw_ok ?_ | refine Eq.mpr wp_seq ?_ | refine Eq.mpr wp_asg ?_ | refine Eq.mpr wp_retM ?_ | refine Eq.mpr wp_if ?_ | refine Eq.mpr wp_tst ?_ | refine Eq.mpr wp_op ?_ | refine Eq.mpr wp_cons ?_ | refine Eq.mpr wp_d ?_ | refine Eq.mpr wp_ret ?_ | refine Eq.mpr wp_valA ?_ | refine Eq.mpr wp_bd ?_ | refine Eq.mpr wp_andV ?_ | refine Eq.mpr wp_orV ?_ | refine Eq.mpr wp_notV ?_ | refine Eq.mpr wp_notZ ?_ | refine Eq.mpr wp_andZ ?_ | refine Eq.mpr wp_orZ ?_ | refine Eq.mpr wp_lst ?_ | refine Eq.mpr wp_tup ?_ | refine Eq.mpr wp_drop ?_ | refine Eq.mpr wp_bl ?_ | refine Eq.mpr wp_ch ?_ | refine Eq.mpr wp_slLh ?_ | refine Eq.mpr wp_up ?_ | refine Eq.mpr wp_join ?_ | refine Eq.mpr wp_comp ?_ | refine Eq.mpr wp_vw ?_ | refine Eq.mpr wp_opt ?_ | refine z_rd (by with_unfolding_all rfl) ?_ | refine z_pk (by with_unfolding_all rfl) ?_ | refine z_mv (by with_unfolding_all rfl) (by simp only [restG, wipeG, List.set_cons_zero, List.set_cons_succ, List.getElem?_cons_zero, List.getElem?_cons_succ, Option.getD_some]; with_unfolding_all rfl) ?_ | refine z_fz (by with_unfolding_all rfl) ?_ | refine z_fzL (by with_unfolding_all rfl) (by with_unfolding_all rfl) (by simp only [restG, wipeG, List.set_cons_zero, List.set_cons_succ, List.getElem?_cons_zero, List.getElem?_cons_succ, Option.getD_some]; with_unfolding_all rfl) ?_ | refine z_set (by simp only [restG, wipeG, List.set_cons_zero, List.set_cons_succ, List.getElem?_cons_zero, List.getElem?_cons_succ, Option.getD_some]; with_unfolding_all rfl) ?_ | refine z_sl (by with_unfolding_all rfl) ?_ | refine z_addI ?_ | refine z_subI ?_ | refine z_mulI (by first | exact mulC_l | exact mulC_r) ?_ | refine z_divI (by omega) (by omega) ?_ | refine z_modI (by omega) ?_ | refine z_powI (by with_unfolding_all rfl) ?_ | refine z_negI ?_ | refine z_ltI ?_ | refine z_leI ?_ | refine z_gtI ?_ | refine z_geI ?_ | refine z_maxI ?_ | refine z_minI ?_ | refine z_eqI ?_ | refine z_eqB ?_ | refine Eq.mpr wp_isi ?_ | refine z_neI ?_ | refine z_eqS ?_ | refine z_neS ?_ | refine z_lenG ?_ | refine z_lenGT ?_ | refine z_lenL ?_ | refine z_lenT ?_ | refine z_lenO ?_ | refine z_lenS (by omega) ?_ | refine z_slHi (by omega) ?_ | refine z_slLo (by omega) ?_ | refine z_slB (by omega) ?_ | refine z_addS (by with_unfolding_all ((try simp only [len_app]); omega)) ?_ | refine z_itL ?_ | refine z_itT ?_ | refine z_itS ?_ | refine z_itgL ?_ | refine z_itgT ?_ | refine z_call ?_ | refine z_cw (by with_unfolding_all rfl) (by simp only [List.map_nil, List.append_nil]; rfl) ?_ | refine z_back (by with_unfolding_all rfl) (by simp only [giveA, List.length_cons, List.length_nil, List.take_succ_cons, List.take_zero, List.getElem?_cons_zero, List.getElem?_cons_succ, List.set_cons_zero, List.set_cons_succ]; with_unfolding_all rfl) ?_ | refine z_fin (by with_unfolding_all rfl) ?_)
  refine z_ite (fun h1 => ?_) (fun h1 => ?_)
  · repeat (with_reducible first | refine z_lenOk (by with_unfolding_all rfl) ?_ | refine Eq.mpr optW_some ?_ | refine Eq.mpr fw_ok ?_ | refine Eq.mpr wp_seq ?_ | refine Eq.mpr wp_asg ?_ | refine Eq.mpr wp_retM ?_ | refine Eq.mpr wp_if ?_ | refine Eq.mpr wp_tst ?_ | refine Eq.mpr wp_op ?_ | refine Eq.mpr wp_cons ?_ | refine Eq.mpr wp_d ?_ | refine Eq.mpr wp_ret ?_ | refine Eq.mpr wp_valA ?_ | refine Eq.mpr wp_bd ?_ | refine Eq.mpr wp_andV ?_ | refine Eq.mpr wp_orV ?_ | refine Eq.mpr wp_notV ?_ | refine Eq.mpr wp_notZ ?_ | refine Eq.mpr wp_andZ ?_ | refine Eq.mpr wp_orZ ?_ | refine Eq.mpr wp_lst ?_ | refine Eq.mpr wp_tup ?_ | refine Eq.mpr wp_drop ?_ | refine Eq.mpr wp_bl ?_ | refine Eq.mpr wp_ch ?_ | refine Eq.mpr wp_slLh ?_ | refine Eq.mpr wp_up ?_ | refine Eq.mpr wp_join ?_ | refine Eq.mpr wp_comp ?_ | refine Eq.mpr wp_vw ?_ | refine Eq.mpr wp_opt ?_ | refine z_rd (by with_unfolding_all rfl) ?_ | refine z_pk (by with_unfolding_all rfl) ?_ | refine z_mv (by with_unfolding_all rfl) (by simp only [restG, wipeG, List.set_cons_zero, List.set_cons_succ, List.getElem?_cons_zero, List.getElem?_cons_succ, Option.getD_some]; with_unfolding_all rfl) ?_ | refine z_fz (by with_unfolding_all rfl) ?_ | refine z_fzL (by with_unfolding_all rfl) (by with_unfolding_all rfl) (by simp only [restG, wipeG, List.set_cons_zero, List.set_cons_succ, List.getElem?_cons_zero, List.getElem?_cons_succ, Option.getD_some]; with_unfolding_all rfl) ?_ | refine z_set (by simp only [restG, wipeG, List.set_cons_zero, List.set_cons_succ, List.getElem?_cons_zero, List.getElem?_cons_succ, Option.getD_some]; with_unfolding_all rfl) ?_ | refine z_sl (by with_unfolding_all rfl) ?_ | refine z_addI ?_ | refine z_subI ?_ | refine z_mulI (by first | exact mulC_l | exact mulC_r) ?_ | refine z_divI (by omega) (by omega) ?_ | refine z_modI (by omega) ?_ | refine z_powI (by with_unfolding_all rfl) ?_ | refine z_negI ?_ | refine z_ltI ?_ | refine z_leI ?_ | refine z_gtI ?_ | refine z_geI ?_ | refine z_maxI ?_ | refine z_minI ?_ | refine z_eqI ?_ | refine z_eqB ?_ | refine Eq.mpr wp_isi ?_ | refine z_neI ?_ | refine z_eqS ?_ | refine z_neS ?_ | refine z_lenG ?_ | refine z_lenGT ?_ | refine z_lenL ?_ | refine z_lenT ?_ | refine z_lenO ?_ | refine z_lenS (by omega) ?_ | refine z_slHi (by omega) ?_ | refine z_slLo (by omega) ?_ | refine z_slB (by omega) ?_ | refine z_addS (by with_unfolding_all ((try simp only [len_app]); omega)) ?_ | refine z_itL ?_ | refine z_itT ?_ | refine z_itS ?_ | refine z_itgL ?_ | refine z_itgT ?_ | refine z_call ?_ | refine z_cw (by with_unfolding_all rfl) (by simp only [List.map_nil, List.append_nil]; rfl) ?_ | refine z_back (by with_unfolding_all rfl) (by simp only [giveA, List.length_cons, List.length_nil, List.take_succ_cons, List.take_zero, List.getElem?_cons_zero, List.getElem?_cons_succ, List.set_cons_zero, List.set_cons_succ]; with_unfolding_all rfl) ?_ | refine z_fin (by with_unfolding_all rfl) ?_)
    refine z_ite (fun h2 => ?_) (fun h2 => ?_)
    · repeat (with_reducible first | refine z_lenOk (by with_unfolding_all rfl) ?_ | refine Eq.mpr optW_some ?_ | refine Eq.mpr fw_ok ?_ | refine Eq.mpr wp_seq ?_ | refine Eq.mpr wp_asg ?_ | refine Eq.mpr wp_retM ?_ | refine Eq.mpr wp_if ?_ | refine Eq.mpr wp_tst ?_ | refine Eq.mpr wp_op ?_ | refine Eq.mpr wp_cons ?_ | refine Eq.mpr wp_d ?_ | refine Eq.mpr wp_ret ?_ | refine Eq.mpr wp_valA ?_ | refine Eq.mpr wp_bd ?_ | refine Eq.mpr wp_andV ?_ | refine Eq.mpr wp_orV ?_ | refine Eq.mpr wp_notV ?_ | refine Eq.mpr wp_notZ ?_ | refine Eq.mpr wp_andZ ?_ | refine Eq.mpr wp_orZ ?_ | refine Eq.mpr wp_lst ?_ | refine Eq.mpr wp_tup ?_ | refine Eq.mpr wp_drop ?_ | refine Eq.mpr wp_bl ?_ | refine Eq.mpr wp_ch ?_ | refine Eq.mpr wp_slLh ?_ | refine Eq.mpr wp_up ?_ | refine Eq.mpr wp_join ?_ | refine Eq.mpr wp_comp ?_ | refine Eq.mpr wp_vw ?_ | refine Eq.mpr wp_opt ?_ | refine z_rd (by with_unfolding_all rfl) ?_ | refine z_pk (by with_unfolding_all rfl) ?_ | refine z_mv (by with_unfolding_all rfl) (by simp only [restG, wipeG, List.set_cons_zero, List.set_cons_succ, List.getElem?_cons_zero, List.getElem?_cons_succ, Option.getD_some]; with_unfolding_all rfl) ?_ | refine z_fz (by with_unfolding_all rfl) ?_ | refine z_fzL (by with_unfolding_all rfl) (by with_unfolding_all rfl) (by simp only [restG, wipeG, List.set_cons_zero, List.set_cons_succ, List.getElem?_cons_zero, List.getElem?_cons_succ, Option.getD_some]; with_unfolding_all rfl) ?_ | refine z_set (by simp only [restG, wipeG, List.set_cons_zero, List.set_cons_succ, List.getElem?_cons_zero, List.getElem?_cons_succ, Option.getD_some]; with_unfolding_all rfl) ?_ | refine z_sl (by with_unfolding_all rfl) ?_ | refine z_addI ?_ | refine z_subI ?_ | refine z_mulI (by first | exact mulC_l | exact mulC_r) ?_ | refine z_divI (by omega) (by omega) ?_ | refine z_modI (by omega) ?_ | refine z_powI (by with_unfolding_all rfl) ?_ | refine z_negI ?_ | refine z_ltI ?_ | refine z_leI ?_ | refine z_gtI ?_ | refine z_geI ?_ | refine z_maxI ?_ | refine z_minI ?_ | refine z_eqI ?_ | refine z_eqB ?_ | refine Eq.mpr wp_isi ?_ | refine z_neI ?_ | refine z_eqS ?_ | refine z_neS ?_ | refine z_lenG ?_ | refine z_lenGT ?_ | refine z_lenL ?_ | refine z_lenT ?_ | refine z_lenO ?_ | refine z_lenS (by omega) ?_ | refine z_slHi (by omega) ?_ | refine z_slLo (by omega) ?_ | refine z_slB (by omega) ?_ | refine z_addS (by with_unfolding_all ((try simp only [len_app]); omega)) ?_ | refine z_itL ?_ | refine z_itT ?_ | refine z_itS ?_ | refine z_itgL ?_ | refine z_itgT ?_ | refine z_call ?_ | refine z_cw (by with_unfolding_all rfl) (by simp only [List.map_nil, List.append_nil]; rfl) ?_ | refine z_back (by with_unfolding_all rfl) (by simp only [giveA, List.length_cons, List.length_nil, List.take_succ_cons, List.take_zero, List.getElem?_cons_zero, List.getElem?_cons_succ, List.set_cons_zero, List.set_cons_succ]; with_unfolding_all rfl) ?_ | refine z_fin (by with_unfolding_all rfl) ?_)
      refine z_in (inB_gT rfl rfl) ?_
      refine z_ite (fun h3 => ?_) (fun h3 => ?_)
      · repeat (with_reducible first | refine z_lenOk (by with_unfolding_all rfl) ?_ | refine Eq.mpr optW_some ?_ | refine Eq.mpr fw_ok ?_ | refine Eq.mpr wp_seq ?_ | refine Eq.mpr wp_asg ?_ | refine Eq.mpr wp_retM ?_ | refine Eq.mpr wp_if ?_ | refine Eq.mpr wp_tst ?_ | refine Eq.mpr wp_op ?_ | refine Eq.mpr wp_cons ?_ | refine Eq.mpr wp_d ?_ | refine Eq.mpr wp_ret ?_ | refine Eq.mpr wp_valA ?_ | refine Eq.mpr wp_bd ?_ | refine Eq.mpr wp_andV ?_ | refine Eq.mpr wp_orV ?_ | refine Eq.mpr wp_notV ?_ | refine Eq.mpr wp_notZ ?_ | refine Eq.mpr wp_andZ ?_ | refine Eq.mpr wp_orZ ?_ | refine Eq.mpr wp_lst ?_ | refine Eq.mpr wp_tup ?_ | refine Eq.mpr wp_drop ?_ | refine Eq.mpr wp_bl ?_ | refine Eq.mpr wp_ch ?_ | refine Eq.mpr wp_slLh ?_ | refine Eq.mpr wp_up ?_ | refine Eq.mpr wp_join ?_ | refine Eq.mpr wp_comp ?_ | refine Eq.mpr wp_vw ?_ | refine Eq.mpr wp_opt ?_ | refine z_rd (by with_unfolding_all rfl) ?_ | refine z_pk (by with_unfolding_all rfl) ?_ | refine z_mv (by with_unfolding_all rfl) (by simp only [restG, wipeG, List.set_cons_zero, List.set_cons_succ, List.getElem?_cons_zero, List.getElem?_cons_succ, Option.getD_some]; with_unfolding_all rfl) ?_ | refine z_fz (by with_unfolding_all rfl) ?_ | refine z_fzL (by with_unfolding_all rfl) (by with_unfolding_all rfl) (by simp only [restG, wipeG, List.set_cons_zero, List.set_cons_succ, List.getElem?_cons_zero, List.getElem?_cons_succ, Option.getD_some]; with_unfolding_all rfl) ?_ | refine z_set (by simp only [restG, wipeG, List.set_cons_zero, List.set_cons_succ, List.getElem?_cons_zero, List.getElem?_cons_succ, Option.getD_some]; with_unfolding_all rfl) ?_ | refine z_sl (by with_unfolding_all rfl) ?_ | refine z_addI ?_ | refine z_subI ?_ | refine z_mulI (by first | exact mulC_l | exact mulC_r) ?_ | refine z_divI (by omega) (by omega) ?_ | refine z_modI (by omega) ?_ | refine z_powI (by with_unfolding_all rfl) ?_ | refine z_negI ?_ | refine z_ltI ?_ | refine z_leI ?_ | refine z_gtI ?_ | refine z_geI ?_ | refine z_maxI ?_ | refine z_minI ?_ | refine z_eqI ?_ | refine z_eqB ?_ | refine Eq.mpr wp_isi ?_ | refine z_neI ?_ | refine z_eqS ?_ | refine z_neS ?_ | refine z_lenG ?_ | refine z_lenGT ?_ | refine z_lenL ?_ | refine z_lenT ?_ | refine z_lenO ?_ | refine z_lenS (by omega) ?_ | refine z_slHi (by omega) ?_ | refine z_slLo (by omega) ?_ | refine z_slB (by omega) ?_ | refine z_addS (by with_unfolding_all ((try simp only [len_app]); omega)) ?_ | refine z_itL ?_ | refine z_itT ?_ | refine z_itS ?_ | refine z_itgL ?_ | refine z_itgT ?_ | refine z_call ?_ | refine z_cw (by with_unfolding_all rfl) (by simp only [List.map_nil, List.append_nil]; rfl) ?_ | refine z_back (by with_unfolding_all rfl) (by simp only [giveA, List.length_cons, List.length_nil, List.take_succ_cons, List.take_zero, List.getElem?_cons_zero, List.getElem?_cons_succ, List.set_cons_zero, List.set_cons_succ]; with_unfolding_all rfl) ?_ | refine z_fin (by with_unfolding_all rfl) ?_)
        refine ⟨by rw [hs]; exact lenOk_of (by omega), ?_⟩
        refine wp_lcQ (fun c => .str ⟨#[c]⟩) (fun c => .d (.bool (decide (c ∈ lets.cps.toList)))) _ _ (fun c hc => ?_) ?_
        · repeat (with_reducible first | refine z_lenOk (by with_unfolding_all rfl) ?_ | refine Eq.mpr optW_some ?_ | refine Eq.mpr fw_ok ?_ | refine Eq.mpr wp_seq ?_ | refine Eq.mpr wp_asg ?_ | refine Eq.mpr wp_retM ?_ | refine Eq.mpr wp_if ?_ | refine Eq.mpr wp_tst ?_ | refine Eq.mpr wp_op ?_ | refine Eq.mpr wp_cons ?_ | refine Eq.mpr wp_d ?_ | refine Eq.mpr wp_ret ?_ | refine Eq.mpr wp_valA ?_ | refine Eq.mpr wp_bd ?_ | refine Eq.mpr wp_andV ?_ | refine Eq.mpr wp_orV ?_ | refine Eq.mpr wp_notV ?_ | refine Eq.mpr wp_notZ ?_ | refine Eq.mpr wp_andZ ?_ | refine Eq.mpr wp_orZ ?_ | refine Eq.mpr wp_lst ?_ | refine Eq.mpr wp_tup ?_ | refine Eq.mpr wp_drop ?_ | refine Eq.mpr wp_bl ?_ | refine Eq.mpr wp_ch ?_ | refine Eq.mpr wp_slLh ?_ | refine Eq.mpr wp_up ?_ | refine Eq.mpr wp_join ?_ | refine Eq.mpr wp_comp ?_ | refine Eq.mpr wp_vw ?_ | refine Eq.mpr wp_opt ?_ | refine z_rd (by with_unfolding_all rfl) ?_ | refine z_pk (by with_unfolding_all rfl) ?_ | refine z_mv (by with_unfolding_all rfl) (by simp only [restG, wipeG, List.set_cons_zero, List.set_cons_succ, List.getElem?_cons_zero, List.getElem?_cons_succ, Option.getD_some]; with_unfolding_all rfl) ?_ | refine z_fz (by with_unfolding_all rfl) ?_ | refine z_fzL (by with_unfolding_all rfl) (by with_unfolding_all rfl) (by simp only [restG, wipeG, List.set_cons_zero, List.set_cons_succ, List.getElem?_cons_zero, List.getElem?_cons_succ, Option.getD_some]; with_unfolding_all rfl) ?_ | refine z_set (by simp only [restG, wipeG, List.set_cons_zero, List.set_cons_succ, List.getElem?_cons_zero, List.getElem?_cons_succ, Option.getD_some]; with_unfolding_all rfl) ?_ | refine z_sl (by with_unfolding_all rfl) ?_ | refine z_addI ?_ | refine z_subI ?_ | refine z_mulI (by first | exact mulC_l | exact mulC_r) ?_ | refine z_divI (by omega) (by omega) ?_ | refine z_modI (by omega) ?_ | refine z_powI (by with_unfolding_all rfl) ?_ | refine z_negI ?_ | refine z_ltI ?_ | refine z_leI ?_ | refine z_gtI ?_ | refine z_geI ?_ | refine z_maxI ?_ | refine z_minI ?_ | refine z_eqI ?_ | refine z_eqB ?_ | refine Eq.mpr wp_isi ?_ | refine z_neI ?_ | refine z_eqS ?_ | refine z_neS ?_ | refine z_lenG ?_ | refine z_lenGT ?_ | refine z_lenL ?_ | refine z_lenT ?_ | refine z_lenO ?_ | refine z_lenS (by omega) ?_ | refine z_slHi (by omega) ?_ | refine z_slLo (by omega) ?_ | refine z_slB (by omega) ?_ | refine z_addS (by with_unfolding_all ((try simp only [len_app]); omega)) ?_ | refine z_itL ?_ | refine z_itT ?_ | refine z_itS ?_ | refine z_itgL ?_ | refine z_itgT ?_ | refine z_call ?_ | refine z_cw (by with_unfolding_all rfl) (by simp only [List.map_nil, List.append_nil]; rfl) ?_ | refine z_back (by with_unfolding_all rfl) (by simp only [giveA, List.length_cons, List.length_nil, List.take_succ_cons, List.take_zero, List.getElem?_cons_zero, List.getElem?_cons_succ, List.set_cons_zero, List.set_cons_succ]; with_unfolding_all rfl) ?_ | refine z_fin (by with_unfolding_all rfl) ?_)
          unfold yesM
          repeat (with_reducible first | refine z_lenOk (by with_unfolding_all rfl) ?_ | refine Eq.mpr optW_some ?_ | refine Eq.mpr fw_ok ?_ | refine Eq.mpr wp_seq ?_ | refine Eq.mpr wp_asg ?_ | refine Eq.mpr wp_retM ?_ | refine Eq.mpr wp_if ?_ | refine Eq.mpr wp_tst ?_ | refine Eq.mpr wp_op ?_ | refine Eq.mpr wp_cons ?_ | refine Eq.mpr wp_d ?_ | refine Eq.mpr wp_ret ?_ | refine Eq.mpr wp_valA ?_ | refine Eq.mpr wp_bd ?_ | refine Eq.mpr wp_andV ?_ | refine Eq.mpr wp_orV ?_ | refine Eq.mpr wp_notV ?_ | refine Eq.mpr wp_notZ ?_ | refine Eq.mpr wp_andZ ?_ | refine Eq.mpr wp_orZ ?_ | refine Eq.mpr wp_lst ?_ | refine Eq.mpr wp_tup ?_ | refine Eq.mpr wp_drop ?_ | refine Eq.mpr wp_bl ?_ | refine Eq.mpr wp_ch ?_ | refine Eq.mpr wp_slLh ?_ | refine Eq.mpr wp_up ?_ | refine Eq.mpr wp_join ?_ | refine Eq.mpr wp_comp ?_ | refine Eq.mpr wp_vw ?_ | refine Eq.mpr wp_opt ?_ | refine z_rd (by with_unfolding_all rfl) ?_ | refine z_pk (by with_unfolding_all rfl) ?_ | refine z_mv (by with_unfolding_all rfl) (by simp only [restG, wipeG, List.set_cons_zero, List.set_cons_succ, List.getElem?_cons_zero, List.getElem?_cons_succ, Option.getD_some]; with_unfolding_all rfl) ?_ | refine z_fz (by with_unfolding_all rfl) ?_ | refine z_fzL (by with_unfolding_all rfl) (by with_unfolding_all rfl) (by simp only [restG, wipeG, List.set_cons_zero, List.set_cons_succ, List.getElem?_cons_zero, List.getElem?_cons_succ, Option.getD_some]; with_unfolding_all rfl) ?_ | refine z_set (by simp only [restG, wipeG, List.set_cons_zero, List.set_cons_succ, List.getElem?_cons_zero, List.getElem?_cons_succ, Option.getD_some]; with_unfolding_all rfl) ?_ | refine z_sl (by with_unfolding_all rfl) ?_ | refine z_addI ?_ | refine z_subI ?_ | refine z_mulI (by first | exact mulC_l | exact mulC_r) ?_ | refine z_divI (by omega) (by omega) ?_ | refine z_modI (by omega) ?_ | refine z_powI (by with_unfolding_all rfl) ?_ | refine z_negI ?_ | refine z_ltI ?_ | refine z_leI ?_ | refine z_gtI ?_ | refine z_geI ?_ | refine z_maxI ?_ | refine z_minI ?_ | refine z_eqI ?_ | refine z_eqB ?_ | refine Eq.mpr wp_isi ?_ | refine z_neI ?_ | refine z_eqS ?_ | refine z_neS ?_ | refine z_lenG ?_ | refine z_lenGT ?_ | refine z_lenL ?_ | refine z_lenT ?_ | refine z_lenO ?_ | refine z_lenS (by omega) ?_ | refine z_slHi (by omega) ?_ | refine z_slLo (by omega) ?_ | refine z_slB (by omega) ?_ | refine z_addS (by with_unfolding_all ((try simp only [len_app]); omega)) ?_ | refine z_itL ?_ | refine z_itT ?_ | refine z_itS ?_ | refine z_itgL ?_ | refine z_itgT ?_ | refine z_call ?_ | refine z_cw (by with_unfolding_all rfl) (by simp only [List.map_nil, List.append_nil]; rfl) ?_ | refine z_back (by with_unfolding_all rfl) (by simp only [giveA, List.length_cons, List.length_nil, List.take_succ_cons, List.take_zero, List.getElem?_cons_zero, List.getElem?_cons_succ, List.set_cons_zero, List.set_cons_succ]; with_unfolding_all rfl) ?_ | refine z_fin (by with_unfolding_all rfl) ?_)
          refine ⟨rfl, ?_⟩
          repeat (with_reducible first | refine z_lenOk (by with_unfolding_all rfl) ?_ | refine Eq.mpr optW_some ?_ | refine Eq.mpr fw_ok ?_ | refine Eq.mpr wp_seq ?_ | refine Eq.mpr wp_asg ?_ | refine Eq.mpr wp_retM ?_ | refine Eq.mpr wp_if ?_ | refine Eq.mpr wp_tst ?_ | refine Eq.mpr wp_op ?_ | refine Eq.mpr wp_cons ?_ | refine Eq.mpr wp_d ?_ | refine Eq.mpr wp_ret ?_ | refine Eq.mpr wp_valA ?_ | refine Eq.mpr wp_bd ?_ | refine Eq.mpr wp_andV ?_ | refine Eq.mpr wp_orV ?_ | refine Eq.mpr wp_notV ?_ | refine Eq.mpr wp_notZ ?_ | refine Eq.mpr wp_andZ ?_ | refine Eq.mpr wp_orZ ?_ | refine Eq.mpr wp_lst ?_ | refine Eq.mpr wp_tup ?_ | refine Eq.mpr wp_drop ?_ | refine Eq.mpr wp_bl ?_ | refine Eq.mpr wp_ch ?_ | refine Eq.mpr wp_slLh ?_ | refine Eq.mpr wp_up ?_ | refine Eq.mpr wp_join ?_ | refine Eq.mpr wp_comp ?_ | refine Eq.mpr wp_vw ?_ | refine Eq.mpr wp_opt ?_ | refine z_rd (by with_unfolding_all rfl) ?_ | refine z_pk (by with_unfolding_all rfl) ?_ | refine z_mv (by with_unfolding_all rfl) (by simp only [restG, wipeG, List.set_cons_zero, List.set_cons_succ, List.getElem?_cons_zero, List.getElem?_cons_succ, Option.getD_some]; with_unfolding_all rfl) ?_ | refine z_fz (by with_unfolding_all rfl) ?_ | refine z_fzL (by with_unfolding_all rfl) (by with_unfolding_all rfl) (by simp only [restG, wipeG, List.set_cons_zero, List.set_cons_succ, List.getElem?_cons_zero, List.getElem?_cons_succ, Option.getD_some]; with_unfolding_all rfl) ?_ | refine z_set (by simp only [restG, wipeG, List.set_cons_zero, List.set_cons_succ, List.getElem?_cons_zero, List.getElem?_cons_succ, Option.getD_some]; with_unfolding_all rfl) ?_ | refine z_sl (by with_unfolding_all rfl) ?_ | refine z_addI ?_ | refine z_subI ?_ | refine z_mulI (by first | exact mulC_l | exact mulC_r) ?_ | refine z_divI (by omega) (by omega) ?_ | refine z_modI (by omega) ?_ | refine z_powI (by with_unfolding_all rfl) ?_ | refine z_negI ?_ | refine z_ltI ?_ | refine z_leI ?_ | refine z_gtI ?_ | refine z_geI ?_ | refine z_maxI ?_ | refine z_minI ?_ | refine z_eqI ?_ | refine z_eqB ?_ | refine Eq.mpr wp_isi ?_ | refine z_neI ?_ | refine z_eqS ?_ | refine z_neS ?_ | refine z_lenG ?_ | refine z_lenGT ?_ | refine z_lenL ?_ | refine z_lenT ?_ | refine z_lenO ?_ | refine z_lenS (by omega) ?_ | refine z_slHi (by omega) ?_ | refine z_slLo (by omega) ?_ | refine z_slB (by omega) ?_ | refine z_addS (by with_unfolding_all ((try simp only [len_app]); omega)) ?_ | refine z_itL ?_ | refine z_itT ?_ | refine z_itS ?_ | refine z_itgL ?_ | refine z_itgT ?_ | refine z_call ?_ | refine z_cw (by with_unfolding_all rfl) (by simp only [List.map_nil, List.append_nil]; rfl) ?_ | refine z_back (by with_unfolding_all rfl) (by simp only [giveA, List.length_cons, List.length_nil, List.take_succ_cons, List.take_zero, List.getElem?_cons_zero, List.getElem?_cons_succ, List.set_cons_zero, List.set_cons_succ]; with_unfolding_all rfl) ?_ | refine z_fin (by with_unfolding_all rfl) ?_)
          refine z_in inB_ch ?_
          repeat (with_reducible first | refine z_lenOk (by with_unfolding_all rfl) ?_ | refine Eq.mpr optW_some ?_ | refine Eq.mpr fw_ok ?_ | refine Eq.mpr wp_seq ?_ | refine Eq.mpr wp_asg ?_ | refine Eq.mpr wp_retM ?_ | refine Eq.mpr wp_if ?_ | refine Eq.mpr wp_tst ?_ | refine Eq.mpr wp_op ?_ | refine Eq.mpr wp_cons ?_ | refine Eq.mpr wp_d ?_ | refine Eq.mpr wp_ret ?_ | refine Eq.mpr wp_valA ?_ | refine Eq.mpr wp_bd ?_ | refine Eq.mpr wp_andV ?_ | refine Eq.mpr wp_orV ?_ | refine Eq.mpr wp_notV ?_ | refine Eq.mpr wp_notZ ?_ | refine Eq.mpr wp_andZ ?_ | refine Eq.mpr wp_orZ ?_ | refine Eq.mpr wp_lst ?_ | refine Eq.mpr wp_tup ?_ | refine Eq.mpr wp_drop ?_ | refine Eq.mpr wp_bl ?_ | refine Eq.mpr wp_ch ?_ | refine Eq.mpr wp_slLh ?_ | refine Eq.mpr wp_up ?_ | refine Eq.mpr wp_join ?_ | refine Eq.mpr wp_comp ?_ | refine Eq.mpr wp_vw ?_ | refine Eq.mpr wp_opt ?_ | refine z_rd (by with_unfolding_all rfl) ?_ | refine z_pk (by with_unfolding_all rfl) ?_ | refine z_mv (by with_unfolding_all rfl) (by simp only [restG, wipeG, List.set_cons_zero, List.set_cons_succ, List.getElem?_cons_zero, List.getElem?_cons_succ, Option.getD_some]; with_unfolding_all rfl) ?_ | refine z_fz (by with_unfolding_all rfl) ?_ | refine z_fzL (by with_unfolding_all rfl) (by with_unfolding_all rfl) (by simp only [restG, wipeG, List.set_cons_zero, List.set_cons_succ, List.getElem?_cons_zero, List.getElem?_cons_succ, Option.getD_some]; with_unfolding_all rfl) ?_ | refine z_set (by simp only [restG, wipeG, List.set_cons_zero, List.set_cons_succ, List.getElem?_cons_zero, List.getElem?_cons_succ, Option.getD_some]; with_unfolding_all rfl) ?_ | refine z_sl (by with_unfolding_all rfl) ?_ | refine z_addI ?_ | refine z_subI ?_ | refine z_mulI (by first | exact mulC_l | exact mulC_r) ?_ | refine z_divI (by omega) (by omega) ?_ | refine z_modI (by omega) ?_ | refine z_powI (by with_unfolding_all rfl) ?_ | refine z_negI ?_ | refine z_ltI ?_ | refine z_leI ?_ | refine z_gtI ?_ | refine z_geI ?_ | refine z_maxI ?_ | refine z_minI ?_ | refine z_eqI ?_ | refine z_eqB ?_ | refine Eq.mpr wp_isi ?_ | refine z_neI ?_ | refine z_eqS ?_ | refine z_neS ?_ | refine z_lenG ?_ | refine z_lenGT ?_ | refine z_lenL ?_ | refine z_lenT ?_ | refine z_lenO ?_ | refine z_lenS (by omega) ?_ | refine z_slHi (by omega) ?_ | refine z_slLo (by omega) ?_ | refine z_slB (by omega) ?_ | refine z_addS (by with_unfolding_all ((try simp only [len_app]); omega)) ?_ | refine z_itL ?_ | refine z_itT ?_ | refine z_itS ?_ | refine z_itgL ?_ | refine z_itgT ?_ | refine z_call ?_ | refine z_cw (by with_unfolding_all rfl) (by simp only [List.map_nil, List.append_nil]; rfl) ?_ | refine z_back (by with_unfolding_all rfl) (by simp only [giveA, List.length_cons, List.length_nil, List.take_succ_cons, List.take_zero, List.getElem?_cons_zero, List.getElem?_cons_succ, List.set_cons_zero, List.set_cons_succ]; with_unfolding_all rfl) ?_ | refine z_fin (by with_unfolding_all rfl) ?_)
          exact ⟨rfl, rfl⟩
        · repeat (with_reducible first | refine z_lenOk (by with_unfolding_all rfl) ?_ | refine Eq.mpr optW_some ?_ | refine Eq.mpr fw_ok ?_ | refine Eq.mpr wp_seq ?_ | refine Eq.mpr wp_asg ?_ | refine Eq.mpr wp_retM ?_ | refine Eq.mpr wp_if ?_ | refine Eq.mpr wp_tst ?_ | refine Eq.mpr wp_op ?_ | refine Eq.mpr wp_cons ?_ | refine Eq.mpr wp_d ?_ | refine Eq.mpr wp_ret ?_ | refine Eq.mpr wp_valA ?_ | refine Eq.mpr wp_bd ?_ | refine Eq.mpr wp_andV ?_ | refine Eq.mpr wp_orV ?_ | refine Eq.mpr wp_notV ?_ | refine Eq.mpr wp_notZ ?_ | refine Eq.mpr wp_andZ ?_ | refine Eq.mpr wp_orZ ?_ | refine Eq.mpr wp_lst ?_ | refine Eq.mpr wp_tup ?_ | refine Eq.mpr wp_drop ?_ | refine Eq.mpr wp_bl ?_ | refine Eq.mpr wp_ch ?_ | refine Eq.mpr wp_slLh ?_ | refine Eq.mpr wp_up ?_ | refine Eq.mpr wp_join ?_ | refine Eq.mpr wp_comp ?_ | refine Eq.mpr wp_vw ?_ | refine Eq.mpr wp_opt ?_ | refine z_rd (by with_unfolding_all rfl) ?_ | refine z_pk (by with_unfolding_all rfl) ?_ | refine z_mv (by with_unfolding_all rfl) (by simp only [restG, wipeG, List.set_cons_zero, List.set_cons_succ, List.getElem?_cons_zero, List.getElem?_cons_succ, Option.getD_some]; with_unfolding_all rfl) ?_ | refine z_fz (by with_unfolding_all rfl) ?_ | refine z_fzL (by with_unfolding_all rfl) (by with_unfolding_all rfl) (by simp only [restG, wipeG, List.set_cons_zero, List.set_cons_succ, List.getElem?_cons_zero, List.getElem?_cons_succ, Option.getD_some]; with_unfolding_all rfl) ?_ | refine z_set (by simp only [restG, wipeG, List.set_cons_zero, List.set_cons_succ, List.getElem?_cons_zero, List.getElem?_cons_succ, Option.getD_some]; with_unfolding_all rfl) ?_ | refine z_sl (by with_unfolding_all rfl) ?_ | refine z_addI ?_ | refine z_subI ?_ | refine z_mulI (by first | exact mulC_l | exact mulC_r) ?_ | refine z_divI (by omega) (by omega) ?_ | refine z_modI (by omega) ?_ | refine z_powI (by with_unfolding_all rfl) ?_ | refine z_negI ?_ | refine z_ltI ?_ | refine z_leI ?_ | refine z_gtI ?_ | refine z_geI ?_ | refine z_maxI ?_ | refine z_minI ?_ | refine z_eqI ?_ | refine z_eqB ?_ | refine Eq.mpr wp_isi ?_ | refine z_neI ?_ | refine z_eqS ?_ | refine z_neS ?_ | refine z_lenG ?_ | refine z_lenGT ?_ | refine z_lenL ?_ | refine z_lenT ?_ | refine z_lenO ?_ | refine z_lenS (by omega) ?_ | refine z_slHi (by omega) ?_ | refine z_slLo (by omega) ?_ | refine z_slB (by omega) ?_ | refine z_addS (by with_unfolding_all ((try simp only [len_app]); omega)) ?_ | refine z_itL ?_ | refine z_itT ?_ | refine z_itS ?_ | refine z_itgL ?_ | refine z_itgT ?_ | refine z_call ?_ | refine z_cw (by with_unfolding_all rfl) (by simp only [List.map_nil, List.append_nil]; rfl) ?_ | refine z_back (by with_unfolding_all rfl) (by simp only [giveA, List.length_cons, List.length_nil, List.take_succ_cons, List.take_zero, List.getElem?_cons_zero, List.getElem?_cons_succ, List.set_cons_zero, List.set_cons_succ]; with_unfolding_all rfl) ?_ | refine z_fin (by with_unfolding_all rfl) ?_)
          rw [List.nil_append, allF_lst]
          repeat (with_reducible first | refine z_lenOk (by with_unfolding_all rfl) ?_ | refine Eq.mpr optW_some ?_ | refine Eq.mpr fw_ok ?_ | refine Eq.mpr wp_seq ?_ | refine Eq.mpr wp_asg ?_ | refine Eq.mpr wp_retM ?_ | refine Eq.mpr wp_if ?_ | refine Eq.mpr wp_tst ?_ | refine Eq.mpr wp_op ?_ | refine Eq.mpr wp_cons ?_ | refine Eq.mpr wp_d ?_ | refine Eq.mpr wp_ret ?_ | refine Eq.mpr wp_valA ?_ | refine Eq.mpr wp_bd ?_ | refine Eq.mpr wp_andV ?_ | refine Eq.mpr wp_orV ?_ | refine Eq.mpr wp_notV ?_ | refine Eq.mpr wp_notZ ?_ | refine Eq.mpr wp_andZ ?_ | refine Eq.mpr wp_orZ ?_ | refine Eq.mpr wp_lst ?_ | refine Eq.mpr wp_tup ?_ | refine Eq.mpr wp_drop ?_ | refine Eq.mpr wp_bl ?_ | refine Eq.mpr wp_ch ?_ | refine Eq.mpr wp_slLh ?_ | refine Eq.mpr wp_up ?_ | refine Eq.mpr wp_join ?_ | refine Eq.mpr wp_comp ?_ | refine Eq.mpr wp_vw ?_ | refine Eq.mpr wp_opt ?_ | refine z_rd (by with_unfolding_all rfl) ?_ | refine z_pk (by with_unfolding_all rfl) ?_ | refine z_mv (by with_unfolding_all rfl) (by simp only [restG, wipeG, List.set_cons_zero, List.set_cons_succ, List.getElem?_cons_zero, List.getElem?_cons_succ, Option.getD_some]; with_unfolding_all rfl) ?_ | refine z_fz (by with_unfolding_all rfl) ?_ | refine z_fzL (by with_unfolding_all rfl) (by with_unfolding_all rfl) (by simp only [restG, wipeG, List.set_cons_zero, List.set_cons_succ, List.getElem?_cons_zero, List.getElem?_cons_succ, Option.getD_some]; with_unfolding_all rfl) ?_ | refine z_set (by simp only [restG, wipeG, List.set_cons_zero, List.set_cons_succ, List.getElem?_cons_zero, List.getElem?_cons_succ, Option.getD_some]; with_unfolding_all rfl) ?_ | refine z_sl (by with_unfolding_all rfl) ?_ | refine z_addI ?_ | refine z_subI ?_ | refine z_mulI (by first | exact mulC_l | exact mulC_r) ?_ | refine z_divI (by omega) (by omega) ?_ | refine z_modI (by omega) ?_ | refine z_powI (by with_unfolding_all rfl) ?_ | refine z_negI ?_ | refine z_ltI ?_ | refine z_leI ?_ | refine z_gtI ?_ | refine z_geI ?_ | refine z_maxI ?_ | refine z_minI ?_ | refine z_eqI ?_ | refine z_eqB ?_ | refine Eq.mpr wp_isi ?_ | refine z_neI ?_ | refine z_eqS ?_ | refine z_neS ?_ | refine z_lenG ?_ | refine z_lenGT ?_ | refine z_lenL ?_ | refine z_lenT ?_ | refine z_lenO ?_ | refine z_lenS (by omega) ?_ | refine z_slHi (by omega) ?_ | refine z_slLo (by omega) ?_ | refine z_slB (by omega) ?_ | refine z_addS (by with_unfolding_all ((try simp only [len_app]); omega)) ?_ | refine z_itL ?_ | refine z_itT ?_ | refine z_itS ?_ | refine z_itgL ?_ | refine z_itgT ?_ | refine z_call ?_ | refine z_cw (by with_unfolding_all rfl) (by simp only [List.map_nil, List.append_nil]; rfl) ?_ | refine z_back (by with_unfolding_all rfl) (by simp only [giveA, List.length_cons, List.length_nil, List.take_succ_cons, List.take_zero, List.getElem?_cons_zero, List.getElem?_cons_succ, List.set_cons_zero, List.set_cons_succ]; with_unfolding_all rfl) ?_ | refine z_fin (by with_unfolding_all rfl) ?_)
          have e : nmB w = w.cps.toList.all fun c => decide (c ∈ lets.cps.toList) := by
            simp only [decide_eq_true_eq] at h1 h2
            have h4 : takB w = false := by simpa [takB, takenD] using h3
            have h5 : 0 < w.length ∧ w.length ≤ 5 := by omega
            simp [nmB, h4, h5]
          rw [← e]
          exact k
      · repeat (with_reducible first | refine z_lenOk (by with_unfolding_all rfl) ?_ | refine Eq.mpr optW_some ?_ | refine Eq.mpr fw_ok ?_ | refine Eq.mpr wp_seq ?_ | refine Eq.mpr wp_asg ?_ | refine Eq.mpr wp_retM ?_ | refine Eq.mpr wp_if ?_ | refine Eq.mpr wp_tst ?_ | refine Eq.mpr wp_op ?_ | refine Eq.mpr wp_cons ?_ | refine Eq.mpr wp_d ?_ | refine Eq.mpr wp_ret ?_ | refine Eq.mpr wp_valA ?_ | refine Eq.mpr wp_bd ?_ | refine Eq.mpr wp_andV ?_ | refine Eq.mpr wp_orV ?_ | refine Eq.mpr wp_notV ?_ | refine Eq.mpr wp_notZ ?_ | refine Eq.mpr wp_andZ ?_ | refine Eq.mpr wp_orZ ?_ | refine Eq.mpr wp_lst ?_ | refine Eq.mpr wp_tup ?_ | refine Eq.mpr wp_drop ?_ | refine Eq.mpr wp_bl ?_ | refine Eq.mpr wp_ch ?_ | refine Eq.mpr wp_slLh ?_ | refine Eq.mpr wp_up ?_ | refine Eq.mpr wp_join ?_ | refine Eq.mpr wp_comp ?_ | refine Eq.mpr wp_vw ?_ | refine Eq.mpr wp_opt ?_ | refine z_rd (by with_unfolding_all rfl) ?_ | refine z_pk (by with_unfolding_all rfl) ?_ | refine z_mv (by with_unfolding_all rfl) (by simp only [restG, wipeG, List.set_cons_zero, List.set_cons_succ, List.getElem?_cons_zero, List.getElem?_cons_succ, Option.getD_some]; with_unfolding_all rfl) ?_ | refine z_fz (by with_unfolding_all rfl) ?_ | refine z_fzL (by with_unfolding_all rfl) (by with_unfolding_all rfl) (by simp only [restG, wipeG, List.set_cons_zero, List.set_cons_succ, List.getElem?_cons_zero, List.getElem?_cons_succ, Option.getD_some]; with_unfolding_all rfl) ?_ | refine z_set (by simp only [restG, wipeG, List.set_cons_zero, List.set_cons_succ, List.getElem?_cons_zero, List.getElem?_cons_succ, Option.getD_some]; with_unfolding_all rfl) ?_ | refine z_sl (by with_unfolding_all rfl) ?_ | refine z_addI ?_ | refine z_subI ?_ | refine z_mulI (by first | exact mulC_l | exact mulC_r) ?_ | refine z_divI (by omega) (by omega) ?_ | refine z_modI (by omega) ?_ | refine z_powI (by with_unfolding_all rfl) ?_ | refine z_negI ?_ | refine z_ltI ?_ | refine z_leI ?_ | refine z_gtI ?_ | refine z_geI ?_ | refine z_maxI ?_ | refine z_minI ?_ | refine z_eqI ?_ | refine z_eqB ?_ | refine Eq.mpr wp_isi ?_ | refine z_neI ?_ | refine z_eqS ?_ | refine z_neS ?_ | refine z_lenG ?_ | refine z_lenGT ?_ | refine z_lenL ?_ | refine z_lenT ?_ | refine z_lenO ?_ | refine z_lenS (by omega) ?_ | refine z_slHi (by omega) ?_ | refine z_slLo (by omega) ?_ | refine z_slB (by omega) ?_ | refine z_addS (by with_unfolding_all ((try simp only [len_app]); omega)) ?_ | refine z_itL ?_ | refine z_itT ?_ | refine z_itS ?_ | refine z_itgL ?_ | refine z_itgT ?_ | refine z_call ?_ | refine z_cw (by with_unfolding_all rfl) (by simp only [List.map_nil, List.append_nil]; rfl) ?_ | refine z_back (by with_unfolding_all rfl) (by simp only [giveA, List.length_cons, List.length_nil, List.take_succ_cons, List.take_zero, List.getElem?_cons_zero, List.getElem?_cons_succ, List.set_cons_zero, List.set_cons_succ]; with_unfolding_all rfl) ?_ | refine z_fin (by with_unfolding_all rfl) ?_)
        have e : nmB w = false := by
          have h3' : ¬ ((if true = true then !(takB w) else takB w) = true) := h3
          have h4 : takB w = true := by cases q : takB w <;> simp_all
          simp [nmB, h4]
        rw [← e]
        exact k
    · repeat (with_reducible first | refine z_lenOk (by with_unfolding_all rfl) ?_ | refine Eq.mpr optW_some ?_ | refine Eq.mpr fw_ok ?_ | refine Eq.mpr wp_seq ?_ | refine Eq.mpr wp_asg ?_ | refine Eq.mpr wp_retM ?_ | refine Eq.mpr wp_if ?_ | refine Eq.mpr wp_tst ?_ | refine Eq.mpr wp_op ?_ | refine Eq.mpr wp_cons ?_ | refine Eq.mpr wp_d ?_ | refine Eq.mpr wp_ret ?_ | refine Eq.mpr wp_valA ?_ | refine Eq.mpr wp_bd ?_ | refine Eq.mpr wp_andV ?_ | refine Eq.mpr wp_orV ?_ | refine Eq.mpr wp_notV ?_ | refine Eq.mpr wp_notZ ?_ | refine Eq.mpr wp_andZ ?_ | refine Eq.mpr wp_orZ ?_ | refine Eq.mpr wp_lst ?_ | refine Eq.mpr wp_tup ?_ | refine Eq.mpr wp_drop ?_ | refine Eq.mpr wp_bl ?_ | refine Eq.mpr wp_ch ?_ | refine Eq.mpr wp_slLh ?_ | refine Eq.mpr wp_up ?_ | refine Eq.mpr wp_join ?_ | refine Eq.mpr wp_comp ?_ | refine Eq.mpr wp_vw ?_ | refine Eq.mpr wp_opt ?_ | refine z_rd (by with_unfolding_all rfl) ?_ | refine z_pk (by with_unfolding_all rfl) ?_ | refine z_mv (by with_unfolding_all rfl) (by simp only [restG, wipeG, List.set_cons_zero, List.set_cons_succ, List.getElem?_cons_zero, List.getElem?_cons_succ, Option.getD_some]; with_unfolding_all rfl) ?_ | refine z_fz (by with_unfolding_all rfl) ?_ | refine z_fzL (by with_unfolding_all rfl) (by with_unfolding_all rfl) (by simp only [restG, wipeG, List.set_cons_zero, List.set_cons_succ, List.getElem?_cons_zero, List.getElem?_cons_succ, Option.getD_some]; with_unfolding_all rfl) ?_ | refine z_set (by simp only [restG, wipeG, List.set_cons_zero, List.set_cons_succ, List.getElem?_cons_zero, List.getElem?_cons_succ, Option.getD_some]; with_unfolding_all rfl) ?_ | refine z_sl (by with_unfolding_all rfl) ?_ | refine z_addI ?_ | refine z_subI ?_ | refine z_mulI (by first | exact mulC_l | exact mulC_r) ?_ | refine z_divI (by omega) (by omega) ?_ | refine z_modI (by omega) ?_ | refine z_powI (by with_unfolding_all rfl) ?_ | refine z_negI ?_ | refine z_ltI ?_ | refine z_leI ?_ | refine z_gtI ?_ | refine z_geI ?_ | refine z_maxI ?_ | refine z_minI ?_ | refine z_eqI ?_ | refine z_eqB ?_ | refine Eq.mpr wp_isi ?_ | refine z_neI ?_ | refine z_eqS ?_ | refine z_neS ?_ | refine z_lenG ?_ | refine z_lenGT ?_ | refine z_lenL ?_ | refine z_lenT ?_ | refine z_lenO ?_ | refine z_lenS (by omega) ?_ | refine z_slHi (by omega) ?_ | refine z_slLo (by omega) ?_ | refine z_slB (by omega) ?_ | refine z_addS (by with_unfolding_all ((try simp only [len_app]); omega)) ?_ | refine z_itL ?_ | refine z_itT ?_ | refine z_itS ?_ | refine z_itgL ?_ | refine z_itgT ?_ | refine z_call ?_ | refine z_cw (by with_unfolding_all rfl) (by simp only [List.map_nil, List.append_nil]; rfl) ?_ | refine z_back (by with_unfolding_all rfl) (by simp only [giveA, List.length_cons, List.length_nil, List.take_succ_cons, List.take_zero, List.getElem?_cons_zero, List.getElem?_cons_succ, List.set_cons_zero, List.set_cons_succ]; with_unfolding_all rfl) ?_ | refine z_fin (by with_unfolding_all rfl) ?_)
      have e : nmB w = false := by
        simp only [decide_eq_true_eq] at h1 h2
        have h5 : ¬ (0 < w.length ∧ w.length ≤ 5) := by omega
        simp only [nmB, decide_eq_false h5, Bool.false_and]
      rw [e] at k
      exact k
  · repeat (with_reducible first | refine z_lenOk (by with_unfolding_all rfl) ?_ | refine Eq.mpr optW_some ?_ | refine Eq.mpr fw_ok ?_ | refine Eq.mpr wp_seq ?_ | refine Eq.mpr wp_asg ?_ | refine Eq.mpr wp_retM ?_ | refine Eq.mpr wp_if ?_ | refine Eq.mpr wp_tst ?_ | refine Eq.mpr wp_op ?_ | refine Eq.mpr wp_cons ?_ | refine Eq.mpr wp_d ?_ | refine Eq.mpr wp_ret ?_ | refine Eq.mpr wp_valA ?_ | refine Eq.mpr wp_bd ?_ | refine Eq.mpr wp_andV ?_ | refine Eq.mpr wp_orV ?_ | refine Eq.mpr wp_notV ?_ | refine Eq.mpr wp_notZ ?_ | refine Eq.mpr wp_andZ ?_ | refine Eq.mpr wp_orZ ?_ | refine Eq.mpr wp_lst ?_ | refine Eq.mpr wp_tup ?_ | refine Eq.mpr wp_drop ?_ | refine Eq.mpr wp_bl ?_ | refine Eq.mpr wp_ch ?_ | refine Eq.mpr wp_slLh ?_ | refine Eq.mpr wp_up ?_ | refine Eq.mpr wp_join ?_ | refine Eq.mpr wp_comp ?_ | refine Eq.mpr wp_vw ?_ | refine Eq.mpr wp_opt ?_ | refine z_rd (by with_unfolding_all rfl) ?_ | refine z_pk (by with_unfolding_all rfl) ?_ | refine z_mv (by with_unfolding_all rfl) (by simp only [restG, wipeG, List.set_cons_zero, List.set_cons_succ, List.getElem?_cons_zero, List.getElem?_cons_succ, Option.getD_some]; with_unfolding_all rfl) ?_ | refine z_fz (by with_unfolding_all rfl) ?_ | refine z_fzL (by with_unfolding_all rfl) (by with_unfolding_all rfl) (by simp only [restG, wipeG, List.set_cons_zero, List.set_cons_succ, List.getElem?_cons_zero, List.getElem?_cons_succ, Option.getD_some]; with_unfolding_all rfl) ?_ | refine z_set (by simp only [restG, wipeG, List.set_cons_zero, List.set_cons_succ, List.getElem?_cons_zero, List.getElem?_cons_succ, Option.getD_some]; with_unfolding_all rfl) ?_ | refine z_sl (by with_unfolding_all rfl) ?_ | refine z_addI ?_ | refine z_subI ?_ | refine z_mulI (by first | exact mulC_l | exact mulC_r) ?_ | refine z_divI (by omega) (by omega) ?_ | refine z_modI (by omega) ?_ | refine z_powI (by with_unfolding_all rfl) ?_ | refine z_negI ?_ | refine z_ltI ?_ | refine z_leI ?_ | refine z_gtI ?_ | refine z_geI ?_ | refine z_maxI ?_ | refine z_minI ?_ | refine z_eqI ?_ | refine z_eqB ?_ | refine Eq.mpr wp_isi ?_ | refine z_neI ?_ | refine z_eqS ?_ | refine z_neS ?_ | refine z_lenG ?_ | refine z_lenGT ?_ | refine z_lenL ?_ | refine z_lenT ?_ | refine z_lenO ?_ | refine z_lenS (by omega) ?_ | refine z_slHi (by omega) ?_ | refine z_slLo (by omega) ?_ | refine z_slB (by omega) ?_ | refine z_addS (by with_unfolding_all ((try simp only [len_app]); omega)) ?_ | refine z_itL ?_ | refine z_itT ?_ | refine z_itS ?_ | refine z_itgL ?_ | refine z_itgT ?_ | refine z_call ?_ | refine z_cw (by with_unfolding_all rfl) (by simp only [List.map_nil, List.append_nil]; rfl) ?_ | refine z_back (by with_unfolding_all rfl) (by simp only [giveA, List.length_cons, List.length_nil, List.take_succ_cons, List.take_zero, List.getElem?_cons_zero, List.getElem?_cons_succ, List.set_cons_zero, List.set_cons_succ]; with_unfolding_all rfl) ?_ | refine z_fin (by with_unfolding_all rfl) ?_)
    have e : nmB w = false := by
      simp only [decide_eq_true_eq] at h1
      have h5 : ¬ (0 < w.length ∧ w.length ≤ 5) := by omega
      simp only [nmB, decide_eq_false h5, Bool.false_and]
    rw [e] at k
    exact k
theorem fw_due {w : Str} (hw : w.length ≤ 1000) {A : O → List O → Prop} {B : Exn → Prop} (k : A (.d (.bool (nmB w))) [.d (.str w)]) : FW (f_law_due [.d (.str w)]) A B := by
  have hs : (signs w).length = w.length := by simp [signs, Str.length]
  refine z_run rfl rfl (by simp only [List.map_cons, List.map_nil, List.cons_append, List.nil_append, Nat.reduceSub, List.replicate_succ, List.replicate_zero]; rfl) ?_
  unfold g_law_due
  repeat (with_reducible first | refine z_lenOk (by with_unfolding_all rfl) ?_ | refine Eq.mpr optW_some ?_ | refine Eq.mpr fw_ok ?_ | refine Eq.mpr wp_seq ?_ | refine Eq.mpr wp_asg ?_ | refine Eq.mpr wp_retM ?_ | refine Eq.mpr wp_if ?_ | refine Eq.mpr wp_tst ?_ | refine Eq.mpr wp_op ?_ | refine Eq.mpr wp_cons ?_ | refine Eq.mpr wp_d ?_ | refine Eq.mpr wp_ret ?_ | refine Eq.mpr wp_valA ?_ | refine Eq.mpr wp_bd ?_ | refine Eq.mpr wp_andV ?_ | refine Eq.mpr wp_orV ?_ | refine Eq.mpr wp_notV ?_ | refine Eq.mpr wp_notZ ?_ | refine Eq.mpr wp_andZ ?_ | refine Eq.mpr wp_orZ ?_ | refine Eq.mpr wp_lst ?_ | refine Eq.mpr wp_tup ?_ | refine Eq.mpr wp_drop ?_ | refine Eq.mpr wp_bl ?_ | refine Eq.mpr wp_ch ?_ | refine Eq.mpr wp_slLh ?_ | refine Eq.mpr wp_up ?_ | refine Eq.mpr wp_join ?_ | refine Eq.mpr wp_comp ?_ | refine Eq.mpr wp_vw ?_ | refine Eq.mpr wp_opt ?_ | refine z_rd (by with_unfolding_all rfl) ?_ | refine z_pk (by with_unfolding_all rfl) ?_ | refine z_mv (by with_unfolding_all rfl) (by simp only [restG, wipeG, List.set_cons_zero, List.set_cons_succ, List.getElem?_cons_zero, List.getElem?_cons_succ, Option.getD_some]; with_unfolding_all rfl) ?_ | refine z_fz (by with_unfolding_all rfl) ?_ | refine z_fzL (by with_unfolding_all rfl) (by with_unfolding_all rfl) (by simp only [restG, wipeG, List.set_cons_zero, List.set_cons_succ, List.getElem?_cons_zero, List.getElem?_cons_succ, Option.getD_some]; with_unfolding_all rfl) ?_ | refine z_set (by simp only [restG, wipeG, List.set_cons_zero, List.set_cons_succ, List.getElem?_cons_zero, List.getElem?_cons_succ, Option.getD_some]; with_unfolding_all rfl) ?_ | refine z_sl (by with_unfolding_all rfl) ?_ | refine z_addI ?_ | refine z_subI ?_ | refine z_mulI (by first | exact mulC_l | exact mulC_r) ?_ | refine z_divI (by omega) (by omega) ?_ | refine z_modI (by omega) ?_ | refine z_powI (by with_unfolding_all rfl) ?_ | refine z_negI ?_ | refine z_ltI ?_ | refine z_leI ?_ | refine z_gtI ?_ | refine z_geI ?_ | refine z_maxI ?_ | refine z_minI ?_ | refine z_eqI ?_ | refine z_eqB ?_ | refine Eq.mpr wp_isi ?_ | refine z_neI ?_ | refine z_eqS ?_ | refine z_neS ?_ | refine z_lenG ?_ | refine z_lenGT ?_ | refine z_lenL ?_ | refine z_lenT ?_ | refine z_lenO ?_ | refine z_lenS (by omega) ?_ | refine z_slHi (by omega) ?_ | refine z_slLo (by omega) ?_ | refine z_slB (by omega) ?_ | refine z_addS (by with_unfolding_all ((try simp only [len_app]); omega)) ?_ | refine z_itL ?_ | refine z_itT ?_ | refine z_itS ?_ | refine z_itgL ?_ | refine z_itgT ?_ | refine z_call ?_ | refine z_cw (by with_unfolding_all rfl) (by simp only [List.map_nil, List.append_nil]; rfl) ?_ | refine z_back (by with_unfolding_all rfl) (by simp only [giveA, List.length_cons, List.length_nil, List.take_succ_cons, List.take_zero, List.getElem?_cons_zero, List.getElem?_cons_succ, List.set_cons_zero, List.set_cons_succ]; with_unfolding_all rfl) ?_ | refine z_fin (by with_unfolding_all rfl) ?_)
  rw [taken_eq]
  repeat (with_reducible first | refine z_lenOk (by with_unfolding_all rfl) ?_ | refine Eq.mpr optW_some ?_ | refine Eq.mpr fw_ok ?_ | refine Eq.mpr wp_seq ?_ | refine Eq.mpr wp_asg ?_ | refine Eq.mpr wp_retM ?_ | refine Eq.mpr wp_if ?_ | refine Eq.mpr wp_tst ?_ | refine Eq.mpr wp_op ?_ | refine Eq.mpr wp_cons ?_ | refine Eq.mpr wp_d ?_ | refine Eq.mpr wp_ret ?_ | refine Eq.mpr wp_valA ?_ | refine Eq.mpr wp_bd ?_ | refine Eq.mpr wp_andV ?_ | refine Eq.mpr wp_orV ?_ | refine Eq.mpr wp_notV ?_ | refine Eq.mpr wp_notZ ?_ | refine Eq.mpr wp_andZ ?_ | refine Eq.mpr wp_orZ ?_ | refine Eq.mpr wp_lst ?_ | refine Eq.mpr wp_tup ?_ | refine Eq.mpr wp_drop ?_ | refine Eq.mpr wp_bl ?_ | refine Eq.mpr wp_ch ?_ | refine Eq.mpr wp_slLh ?_ | refine Eq.mpr wp_up ?_ | refine Eq.mpr wp_join ?_ | refine Eq.mpr wp_comp ?_ | refine Eq.mpr wp_vw ?_ | refine Eq.mpr wp_opt ?_ | refine z_rd (by with_unfolding_all rfl) ?_ | refine z_pk (by with_unfolding_all rfl) ?_ | refine z_mv (by with_unfolding_all rfl) (by simp only [restG, wipeG, List.set_cons_zero, List.set_cons_succ, List.getElem?_cons_zero, List.getElem?_cons_succ, Option.getD_some]; with_unfolding_all rfl) ?_ | refine z_fz (by with_unfolding_all rfl) ?_ | refine z_fzL (by with_unfolding_all rfl) (by with_unfolding_all rfl) (by simp only [restG, wipeG, List.set_cons_zero, List.set_cons_succ, List.getElem?_cons_zero, List.getElem?_cons_succ, Option.getD_some]; with_unfolding_all rfl) ?_ | refine z_set (by simp only [restG, wipeG, List.set_cons_zero, List.set_cons_succ, List.getElem?_cons_zero, List.getElem?_cons_succ, Option.getD_some]; with_unfolding_all rfl) ?_ | refine z_sl (by with_unfolding_all rfl) ?_ | refine z_addI ?_ | refine z_subI ?_ | refine z_mulI (by first | exact mulC_l | exact mulC_r) ?_ | refine z_divI (by omega) (by omega) ?_ | refine z_modI (by omega) ?_ | refine z_powI (by with_unfolding_all rfl) ?_ | refine z_negI ?_ | refine z_ltI ?_ | refine z_leI ?_ | refine z_gtI ?_ | refine z_geI ?_ | refine z_maxI ?_ | refine z_minI ?_ | refine z_eqI ?_ | refine z_eqB ?_ | refine Eq.mpr wp_isi ?_ | refine z_neI ?_ | refine z_eqS ?_ | refine z_neS ?_ | refine z_lenG ?_ | refine z_lenGT ?_ | refine z_lenL ?_ | refine z_lenT ?_ | refine z_lenO ?_ | refine z_lenS (by omega) ?_ | refine z_slHi (by omega) ?_ | refine z_slLo (by omega) ?_ | refine z_slB (by omega) ?_ | refine z_addS (by with_unfolding_all ((try simp only [len_app]); omega)) ?_ | refine z_itL ?_ | refine z_itT ?_ | refine z_itS ?_ | refine z_itgL ?_ | refine z_itgT ?_ | refine z_call ?_ | refine z_cw (by with_unfolding_all rfl) (by simp only [List.map_nil, List.append_nil]; rfl) ?_ | refine z_back (by with_unfolding_all rfl) (by simp only [giveA, List.length_cons, List.length_nil, List.take_succ_cons, List.take_zero, List.getElem?_cons_zero, List.getElem?_cons_succ, List.set_cons_zero, List.set_cons_succ]; with_unfolding_all rfl) ?_ | refine z_fin (by with_unfolding_all rfl) ?_)
  refine z_in (inB_lst (allD_map _) rfl rfl) ?_
  refine z_ite (fun h3 => ?_) (fun h3 => ?_)
  · repeat (with_reducible first | refine z_lenOk (by with_unfolding_all rfl) ?_ | refine Eq.mpr optW_some ?_ | refine Eq.mpr fw_ok ?_ | refine Eq.mpr wp_seq ?_ | refine Eq.mpr wp_asg ?_ | refine Eq.mpr wp_retM ?_ | refine Eq.mpr wp_if ?_ | refine Eq.mpr wp_tst ?_ | refine Eq.mpr wp_op ?_ | refine Eq.mpr wp_cons ?_ | refine Eq.mpr wp_d ?_ | refine Eq.mpr wp_ret ?_ | refine Eq.mpr wp_valA ?_ | refine Eq.mpr wp_bd ?_ | refine Eq.mpr wp_andV ?_ | refine Eq.mpr wp_orV ?_ | refine Eq.mpr wp_notV ?_ | refine Eq.mpr wp_notZ ?_ | refine Eq.mpr wp_andZ ?_ | refine Eq.mpr wp_orZ ?_ | refine Eq.mpr wp_lst ?_ | refine Eq.mpr wp_tup ?_ | refine Eq.mpr wp_drop ?_ | refine Eq.mpr wp_bl ?_ | refine Eq.mpr wp_ch ?_ | refine Eq.mpr wp_slLh ?_ | refine Eq.mpr wp_up ?_ | refine Eq.mpr wp_join ?_ | refine Eq.mpr wp_comp ?_ | refine Eq.mpr wp_vw ?_ | refine Eq.mpr wp_opt ?_ | refine z_rd (by with_unfolding_all rfl) ?_ | refine z_pk (by with_unfolding_all rfl) ?_ | refine z_mv (by with_unfolding_all rfl) (by simp only [restG, wipeG, List.set_cons_zero, List.set_cons_succ, List.getElem?_cons_zero, List.getElem?_cons_succ, Option.getD_some]; with_unfolding_all rfl) ?_ | refine z_fz (by with_unfolding_all rfl) ?_ | refine z_fzL (by with_unfolding_all rfl) (by with_unfolding_all rfl) (by simp only [restG, wipeG, List.set_cons_zero, List.set_cons_succ, List.getElem?_cons_zero, List.getElem?_cons_succ, Option.getD_some]; with_unfolding_all rfl) ?_ | refine z_set (by simp only [restG, wipeG, List.set_cons_zero, List.set_cons_succ, List.getElem?_cons_zero, List.getElem?_cons_succ, Option.getD_some]; with_unfolding_all rfl) ?_ | refine z_sl (by with_unfolding_all rfl) ?_ | refine z_addI ?_ | refine z_subI ?_ | refine z_mulI (by first | exact mulC_l | exact mulC_r) ?_ | refine z_divI (by omega) (by omega) ?_ | refine z_modI (by omega) ?_ | refine z_powI (by with_unfolding_all rfl) ?_ | refine z_negI ?_ | refine z_ltI ?_ | refine z_leI ?_ | refine z_gtI ?_ | refine z_geI ?_ | refine z_maxI ?_ | refine z_minI ?_ | refine z_eqI ?_ | refine z_eqB ?_ | refine Eq.mpr wp_isi ?_ | refine z_neI ?_ | refine z_eqS ?_ | refine z_neS ?_ | refine z_lenG ?_ | refine z_lenGT ?_ | refine z_lenL ?_ | refine z_lenT ?_ | refine z_lenO ?_ | refine z_lenS (by omega) ?_ | refine z_slHi (by omega) ?_ | refine z_slLo (by omega) ?_ | refine z_slB (by omega) ?_ | refine z_addS (by with_unfolding_all ((try simp only [len_app]); omega)) ?_ | refine z_itL ?_ | refine z_itT ?_ | refine z_itS ?_ | refine z_itgL ?_ | refine z_itgT ?_ | refine z_call ?_ | refine z_cw (by with_unfolding_all rfl) (by simp only [List.map_nil, List.append_nil]; rfl) ?_ | refine z_back (by with_unfolding_all rfl) (by simp only [giveA, List.length_cons, List.length_nil, List.take_succ_cons, List.take_zero, List.getElem?_cons_zero, List.getElem?_cons_succ, List.set_cons_zero, List.set_cons_succ]; with_unfolding_all rfl) ?_ | refine z_fin (by with_unfolding_all rfl) ?_)
    have e : nmB w = false := by
      have h4 : takB w = true := by simpa [takB, takenD] using h3
      simp [nmB, h4]
    rw [← e]
    exact k
  · repeat (with_reducible first | refine z_lenOk (by with_unfolding_all rfl) ?_ | refine Eq.mpr optW_some ?_ | refine Eq.mpr fw_ok ?_ | refine Eq.mpr wp_seq ?_ | refine Eq.mpr wp_asg ?_ | refine Eq.mpr wp_retM ?_ | refine Eq.mpr wp_if ?_ | refine Eq.mpr wp_tst ?_ | refine Eq.mpr wp_op ?_ | refine Eq.mpr wp_cons ?_ | refine Eq.mpr wp_d ?_ | refine Eq.mpr wp_ret ?_ | refine Eq.mpr wp_valA ?_ | refine Eq.mpr wp_bd ?_ | refine Eq.mpr wp_andV ?_ | refine Eq.mpr wp_orV ?_ | refine Eq.mpr wp_notV ?_ | refine Eq.mpr wp_notZ ?_ | refine Eq.mpr wp_andZ ?_ | refine Eq.mpr wp_orZ ?_ | refine Eq.mpr wp_lst ?_ | refine Eq.mpr wp_tup ?_ | refine Eq.mpr wp_drop ?_ | refine Eq.mpr wp_bl ?_ | refine Eq.mpr wp_ch ?_ | refine Eq.mpr wp_slLh ?_ | refine Eq.mpr wp_up ?_ | refine Eq.mpr wp_join ?_ | refine Eq.mpr wp_comp ?_ | refine Eq.mpr wp_vw ?_ | refine Eq.mpr wp_opt ?_ | refine z_rd (by with_unfolding_all rfl) ?_ | refine z_pk (by with_unfolding_all rfl) ?_ | refine z_mv (by with_unfolding_all rfl) (by simp only [restG, wipeG, List.set_cons_zero, List.set_cons_succ, List.getElem?_cons_zero, List.getElem?_cons_succ, Option.getD_some]; with_unfolding_all rfl) ?_ | refine z_fz (by with_unfolding_all rfl) ?_ | refine z_fzL (by with_unfolding_all rfl) (by with_unfolding_all rfl) (by simp only [restG, wipeG, List.set_cons_zero, List.set_cons_succ, List.getElem?_cons_zero, List.getElem?_cons_succ, Option.getD_some]; with_unfolding_all rfl) ?_ | refine z_set (by simp only [restG, wipeG, List.set_cons_zero, List.set_cons_succ, List.getElem?_cons_zero, List.getElem?_cons_succ, Option.getD_some]; with_unfolding_all rfl) ?_ | refine z_sl (by with_unfolding_all rfl) ?_ | refine z_addI ?_ | refine z_subI ?_ | refine z_mulI (by first | exact mulC_l | exact mulC_r) ?_ | refine z_divI (by omega) (by omega) ?_ | refine z_modI (by omega) ?_ | refine z_powI (by with_unfolding_all rfl) ?_ | refine z_negI ?_ | refine z_ltI ?_ | refine z_leI ?_ | refine z_gtI ?_ | refine z_geI ?_ | refine z_maxI ?_ | refine z_minI ?_ | refine z_eqI ?_ | refine z_eqB ?_ | refine Eq.mpr wp_isi ?_ | refine z_neI ?_ | refine z_eqS ?_ | refine z_neS ?_ | refine z_lenG ?_ | refine z_lenGT ?_ | refine z_lenL ?_ | refine z_lenT ?_ | refine z_lenO ?_ | refine z_lenS (by omega) ?_ | refine z_slHi (by omega) ?_ | refine z_slLo (by omega) ?_ | refine z_slB (by omega) ?_ | refine z_addS (by with_unfolding_all ((try simp only [len_app]); omega)) ?_ | refine z_itL ?_ | refine z_itT ?_ | refine z_itS ?_ | refine z_itgL ?_ | refine z_itgT ?_ | refine z_call ?_ | refine z_cw (by with_unfolding_all rfl) (by simp only [List.map_nil, List.append_nil]; rfl) ?_ | refine z_back (by with_unfolding_all rfl) (by simp only [giveA, List.length_cons, List.length_nil, List.take_succ_cons, List.take_zero, List.getElem?_cons_zero, List.getElem?_cons_succ, List.set_cons_zero, List.set_cons_succ]; with_unfolding_all rfl) ?_ | refine z_fin (by with_unfolding_all rfl) ?_)
    refine z_ite (fun h1 => ?_) (fun h1 => ?_)
    · repeat (with_reducible first | refine z_lenOk (by with_unfolding_all rfl) ?_ | refine Eq.mpr optW_some ?_ | refine Eq.mpr fw_ok ?_ | refine Eq.mpr wp_seq ?_ | refine Eq.mpr wp_asg ?_ | refine Eq.mpr wp_retM ?_ | refine Eq.mpr wp_if ?_ | refine Eq.mpr wp_tst ?_ | refine Eq.mpr wp_op ?_ | refine Eq.mpr wp_cons ?_ | refine Eq.mpr wp_d ?_ | refine Eq.mpr wp_ret ?_ | refine Eq.mpr wp_valA ?_ | refine Eq.mpr wp_bd ?_ | refine Eq.mpr wp_andV ?_ | refine Eq.mpr wp_orV ?_ | refine Eq.mpr wp_notV ?_ | refine Eq.mpr wp_notZ ?_ | refine Eq.mpr wp_andZ ?_ | refine Eq.mpr wp_orZ ?_ | refine Eq.mpr wp_lst ?_ | refine Eq.mpr wp_tup ?_ | refine Eq.mpr wp_drop ?_ | refine Eq.mpr wp_bl ?_ | refine Eq.mpr wp_ch ?_ | refine Eq.mpr wp_slLh ?_ | refine Eq.mpr wp_up ?_ | refine Eq.mpr wp_join ?_ | refine Eq.mpr wp_comp ?_ | refine Eq.mpr wp_vw ?_ | refine Eq.mpr wp_opt ?_ | refine z_rd (by with_unfolding_all rfl) ?_ | refine z_pk (by with_unfolding_all rfl) ?_ | refine z_mv (by with_unfolding_all rfl) (by simp only [restG, wipeG, List.set_cons_zero, List.set_cons_succ, List.getElem?_cons_zero, List.getElem?_cons_succ, Option.getD_some]; with_unfolding_all rfl) ?_ | refine z_fz (by with_unfolding_all rfl) ?_ | refine z_fzL (by with_unfolding_all rfl) (by with_unfolding_all rfl) (by simp only [restG, wipeG, List.set_cons_zero, List.set_cons_succ, List.getElem?_cons_zero, List.getElem?_cons_succ, Option.getD_some]; with_unfolding_all rfl) ?_ | refine z_set (by simp only [restG, wipeG, List.set_cons_zero, List.set_cons_succ, List.getElem?_cons_zero, List.getElem?_cons_succ, Option.getD_some]; with_unfolding_all rfl) ?_ | refine z_sl (by with_unfolding_all rfl) ?_ | refine z_addI ?_ | refine z_subI ?_ | refine z_mulI (by first | exact mulC_l | exact mulC_r) ?_ | refine z_divI (by omega) (by omega) ?_ | refine z_modI (by omega) ?_ | refine z_powI (by with_unfolding_all rfl) ?_ | refine z_negI ?_ | refine z_ltI ?_ | refine z_leI ?_ | refine z_gtI ?_ | refine z_geI ?_ | refine z_maxI ?_ | refine z_minI ?_ | refine z_eqI ?_ | refine z_eqB ?_ | refine Eq.mpr wp_isi ?_ | refine z_neI ?_ | refine z_eqS ?_ | refine z_neS ?_ | refine z_lenG ?_ | refine z_lenGT ?_ | refine z_lenL ?_ | refine z_lenT ?_ | refine z_lenO ?_ | refine z_lenS (by omega) ?_ | refine z_slHi (by omega) ?_ | refine z_slLo (by omega) ?_ | refine z_slB (by omega) ?_ | refine z_addS (by with_unfolding_all ((try simp only [len_app]); omega)) ?_ | refine z_itL ?_ | refine z_itT ?_ | refine z_itS ?_ | refine z_itgL ?_ | refine z_itgT ?_ | refine z_call ?_ | refine z_cw (by with_unfolding_all rfl) (by simp only [List.map_nil, List.append_nil]; rfl) ?_ | refine z_back (by with_unfolding_all rfl) (by simp only [giveA, List.length_cons, List.length_nil, List.take_succ_cons, List.take_zero, List.getElem?_cons_zero, List.getElem?_cons_succ, List.set_cons_zero, List.set_cons_succ]; with_unfolding_all rfl) ?_ | refine z_fin (by with_unfolding_all rfl) ?_)
      refine z_ite (fun h2 => ?_) (fun h2 => ?_)
      · repeat (with_reducible first | refine z_lenOk (by with_unfolding_all rfl) ?_ | refine Eq.mpr optW_some ?_ | refine Eq.mpr fw_ok ?_ | refine Eq.mpr wp_seq ?_ | refine Eq.mpr wp_asg ?_ | refine Eq.mpr wp_retM ?_ | refine Eq.mpr wp_if ?_ | refine Eq.mpr wp_tst ?_ | refine Eq.mpr wp_op ?_ | refine Eq.mpr wp_cons ?_ | refine Eq.mpr wp_d ?_ | refine Eq.mpr wp_ret ?_ | refine Eq.mpr wp_valA ?_ | refine Eq.mpr wp_bd ?_ | refine Eq.mpr wp_andV ?_ | refine Eq.mpr wp_orV ?_ | refine Eq.mpr wp_notV ?_ | refine Eq.mpr wp_notZ ?_ | refine Eq.mpr wp_andZ ?_ | refine Eq.mpr wp_orZ ?_ | refine Eq.mpr wp_lst ?_ | refine Eq.mpr wp_tup ?_ | refine Eq.mpr wp_drop ?_ | refine Eq.mpr wp_bl ?_ | refine Eq.mpr wp_ch ?_ | refine Eq.mpr wp_slLh ?_ | refine Eq.mpr wp_up ?_ | refine Eq.mpr wp_join ?_ | refine Eq.mpr wp_comp ?_ | refine Eq.mpr wp_vw ?_ | refine Eq.mpr wp_opt ?_ | refine z_rd (by with_unfolding_all rfl) ?_ | refine z_pk (by with_unfolding_all rfl) ?_ | refine z_mv (by with_unfolding_all rfl) (by simp only [restG, wipeG, List.set_cons_zero, List.set_cons_succ, List.getElem?_cons_zero, List.getElem?_cons_succ, Option.getD_some]; with_unfolding_all rfl) ?_ | refine z_fz (by with_unfolding_all rfl) ?_ | refine z_fzL (by with_unfolding_all rfl) (by with_unfolding_all rfl) (by simp only [restG, wipeG, List.set_cons_zero, List.set_cons_succ, List.getElem?_cons_zero, List.getElem?_cons_succ, Option.getD_some]; with_unfolding_all rfl) ?_ | refine z_set (by simp only [restG, wipeG, List.set_cons_zero, List.set_cons_succ, List.getElem?_cons_zero, List.getElem?_cons_succ, Option.getD_some]; with_unfolding_all rfl) ?_ | refine z_sl (by with_unfolding_all rfl) ?_ | refine z_addI ?_ | refine z_subI ?_ | refine z_mulI (by first | exact mulC_l | exact mulC_r) ?_ | refine z_divI (by omega) (by omega) ?_ | refine z_modI (by omega) ?_ | refine z_powI (by with_unfolding_all rfl) ?_ | refine z_negI ?_ | refine z_ltI ?_ | refine z_leI ?_ | refine z_gtI ?_ | refine z_geI ?_ | refine z_maxI ?_ | refine z_minI ?_ | refine z_eqI ?_ | refine z_eqB ?_ | refine Eq.mpr wp_isi ?_ | refine z_neI ?_ | refine z_eqS ?_ | refine z_neS ?_ | refine z_lenG ?_ | refine z_lenGT ?_ | refine z_lenL ?_ | refine z_lenT ?_ | refine z_lenO ?_ | refine z_lenS (by omega) ?_ | refine z_slHi (by omega) ?_ | refine z_slLo (by omega) ?_ | refine z_slB (by omega) ?_ | refine z_addS (by with_unfolding_all ((try simp only [len_app]); omega)) ?_ | refine z_itL ?_ | refine z_itT ?_ | refine z_itS ?_ | refine z_itgL ?_ | refine z_itgT ?_ | refine z_call ?_ | refine z_cw (by with_unfolding_all rfl) (by simp only [List.map_nil, List.append_nil]; rfl) ?_ | refine z_back (by with_unfolding_all rfl) (by simp only [giveA, List.length_cons, List.length_nil, List.take_succ_cons, List.take_zero, List.getElem?_cons_zero, List.getElem?_cons_succ, List.set_cons_zero, List.set_cons_succ]; with_unfolding_all rfl) ?_ | refine z_fin (by with_unfolding_all rfl) ?_)
        refine ⟨by rw [hs]; exact lenOk_of (by omega), ?_⟩
        refine wp_lcQ (fun c => .str ⟨#[c]⟩) (fun c => .d (.bool (decide (c ∈ lets.cps.toList)))) _ _ (fun c hc => ?_) ?_
        · repeat (with_reducible first | refine z_lenOk (by with_unfolding_all rfl) ?_ | refine Eq.mpr optW_some ?_ | refine Eq.mpr fw_ok ?_ | refine Eq.mpr wp_seq ?_ | refine Eq.mpr wp_asg ?_ | refine Eq.mpr wp_retM ?_ | refine Eq.mpr wp_if ?_ | refine Eq.mpr wp_tst ?_ | refine Eq.mpr wp_op ?_ | refine Eq.mpr wp_cons ?_ | refine Eq.mpr wp_d ?_ | refine Eq.mpr wp_ret ?_ | refine Eq.mpr wp_valA ?_ | refine Eq.mpr wp_bd ?_ | refine Eq.mpr wp_andV ?_ | refine Eq.mpr wp_orV ?_ | refine Eq.mpr wp_notV ?_ | refine Eq.mpr wp_notZ ?_ | refine Eq.mpr wp_andZ ?_ | refine Eq.mpr wp_orZ ?_ | refine Eq.mpr wp_lst ?_ | refine Eq.mpr wp_tup ?_ | refine Eq.mpr wp_drop ?_ | refine Eq.mpr wp_bl ?_ | refine Eq.mpr wp_ch ?_ | refine Eq.mpr wp_slLh ?_ | refine Eq.mpr wp_up ?_ | refine Eq.mpr wp_join ?_ | refine Eq.mpr wp_comp ?_ | refine Eq.mpr wp_vw ?_ | refine Eq.mpr wp_opt ?_ | refine z_rd (by with_unfolding_all rfl) ?_ | refine z_pk (by with_unfolding_all rfl) ?_ | refine z_mv (by with_unfolding_all rfl) (by simp only [restG, wipeG, List.set_cons_zero, List.set_cons_succ, List.getElem?_cons_zero, List.getElem?_cons_succ, Option.getD_some]; with_unfolding_all rfl) ?_ | refine z_fz (by with_unfolding_all rfl) ?_ | refine z_fzL (by with_unfolding_all rfl) (by with_unfolding_all rfl) (by simp only [restG, wipeG, List.set_cons_zero, List.set_cons_succ, List.getElem?_cons_zero, List.getElem?_cons_succ, Option.getD_some]; with_unfolding_all rfl) ?_ | refine z_set (by simp only [restG, wipeG, List.set_cons_zero, List.set_cons_succ, List.getElem?_cons_zero, List.getElem?_cons_succ, Option.getD_some]; with_unfolding_all rfl) ?_ | refine z_sl (by with_unfolding_all rfl) ?_ | refine z_addI ?_ | refine z_subI ?_ | refine z_mulI (by first | exact mulC_l | exact mulC_r) ?_ | refine z_divI (by omega) (by omega) ?_ | refine z_modI (by omega) ?_ | refine z_powI (by with_unfolding_all rfl) ?_ | refine z_negI ?_ | refine z_ltI ?_ | refine z_leI ?_ | refine z_gtI ?_ | refine z_geI ?_ | refine z_maxI ?_ | refine z_minI ?_ | refine z_eqI ?_ | refine z_eqB ?_ | refine Eq.mpr wp_isi ?_ | refine z_neI ?_ | refine z_eqS ?_ | refine z_neS ?_ | refine z_lenG ?_ | refine z_lenGT ?_ | refine z_lenL ?_ | refine z_lenT ?_ | refine z_lenO ?_ | refine z_lenS (by omega) ?_ | refine z_slHi (by omega) ?_ | refine z_slLo (by omega) ?_ | refine z_slB (by omega) ?_ | refine z_addS (by with_unfolding_all ((try simp only [len_app]); omega)) ?_ | refine z_itL ?_ | refine z_itT ?_ | refine z_itS ?_ | refine z_itgL ?_ | refine z_itgT ?_ | refine z_call ?_ | refine z_cw (by with_unfolding_all rfl) (by simp only [List.map_nil, List.append_nil]; rfl) ?_ | refine z_back (by with_unfolding_all rfl) (by simp only [giveA, List.length_cons, List.length_nil, List.take_succ_cons, List.take_zero, List.getElem?_cons_zero, List.getElem?_cons_succ, List.set_cons_zero, List.set_cons_succ]; with_unfolding_all rfl) ?_ | refine z_fin (by with_unfolding_all rfl) ?_)
          unfold yesM
          repeat (with_reducible first | refine z_lenOk (by with_unfolding_all rfl) ?_ | refine Eq.mpr optW_some ?_ | refine Eq.mpr fw_ok ?_ | refine Eq.mpr wp_seq ?_ | refine Eq.mpr wp_asg ?_ | refine Eq.mpr wp_retM ?_ | refine Eq.mpr wp_if ?_ | refine Eq.mpr wp_tst ?_ | refine Eq.mpr wp_op ?_ | refine Eq.mpr wp_cons ?_ | refine Eq.mpr wp_d ?_ | refine Eq.mpr wp_ret ?_ | refine Eq.mpr wp_valA ?_ | refine Eq.mpr wp_bd ?_ | refine Eq.mpr wp_andV ?_ | refine Eq.mpr wp_orV ?_ | refine Eq.mpr wp_notV ?_ | refine Eq.mpr wp_notZ ?_ | refine Eq.mpr wp_andZ ?_ | refine Eq.mpr wp_orZ ?_ | refine Eq.mpr wp_lst ?_ | refine Eq.mpr wp_tup ?_ | refine Eq.mpr wp_drop ?_ | refine Eq.mpr wp_bl ?_ | refine Eq.mpr wp_ch ?_ | refine Eq.mpr wp_slLh ?_ | refine Eq.mpr wp_up ?_ | refine Eq.mpr wp_join ?_ | refine Eq.mpr wp_comp ?_ | refine Eq.mpr wp_vw ?_ | refine Eq.mpr wp_opt ?_ | refine z_rd (by with_unfolding_all rfl) ?_ | refine z_pk (by with_unfolding_all rfl) ?_ | refine z_mv (by with_unfolding_all rfl) (by simp only [restG, wipeG, List.set_cons_zero, List.set_cons_succ, List.getElem?_cons_zero, List.getElem?_cons_succ, Option.getD_some]; with_unfolding_all rfl) ?_ | refine z_fz (by with_unfolding_all rfl) ?_ | refine z_fzL (by with_unfolding_all rfl) (by with_unfolding_all rfl) (by simp only [restG, wipeG, List.set_cons_zero, List.set_cons_succ, List.getElem?_cons_zero, List.getElem?_cons_succ, Option.getD_some]; with_unfolding_all rfl) ?_ | refine z_set (by simp only [restG, wipeG, List.set_cons_zero, List.set_cons_succ, List.getElem?_cons_zero, List.getElem?_cons_succ, Option.getD_some]; with_unfolding_all rfl) ?_ | refine z_sl (by with_unfolding_all rfl) ?_ | refine z_addI ?_ | refine z_subI ?_ | refine z_mulI (by first | exact mulC_l | exact mulC_r) ?_ | refine z_divI (by omega) (by omega) ?_ | refine z_modI (by omega) ?_ | refine z_powI (by with_unfolding_all rfl) ?_ | refine z_negI ?_ | refine z_ltI ?_ | refine z_leI ?_ | refine z_gtI ?_ | refine z_geI ?_ | refine z_maxI ?_ | refine z_minI ?_ | refine z_eqI ?_ | refine z_eqB ?_ | refine Eq.mpr wp_isi ?_ | refine z_neI ?_ | refine z_eqS ?_ | refine z_neS ?_ | refine z_lenG ?_ | refine z_lenGT ?_ | refine z_lenL ?_ | refine z_lenT ?_ | refine z_lenO ?_ | refine z_lenS (by omega) ?_ | refine z_slHi (by omega) ?_ | refine z_slLo (by omega) ?_ | refine z_slB (by omega) ?_ | refine z_addS (by with_unfolding_all ((try simp only [len_app]); omega)) ?_ | refine z_itL ?_ | refine z_itT ?_ | refine z_itS ?_ | refine z_itgL ?_ | refine z_itgT ?_ | refine z_call ?_ | refine z_cw (by with_unfolding_all rfl) (by simp only [List.map_nil, List.append_nil]; rfl) ?_ | refine z_back (by with_unfolding_all rfl) (by simp only [giveA, List.length_cons, List.length_nil, List.take_succ_cons, List.take_zero, List.getElem?_cons_zero, List.getElem?_cons_succ, List.set_cons_zero, List.set_cons_succ]; with_unfolding_all rfl) ?_ | refine z_fin (by with_unfolding_all rfl) ?_)
          refine ⟨rfl, ?_⟩
          repeat (with_reducible first | refine z_lenOk (by with_unfolding_all rfl) ?_ | refine Eq.mpr optW_some ?_ | refine Eq.mpr fw_ok ?_ | refine Eq.mpr wp_seq ?_ | refine Eq.mpr wp_asg ?_ | refine Eq.mpr wp_retM ?_ | refine Eq.mpr wp_if ?_ | refine Eq.mpr wp_tst ?_ | refine Eq.mpr wp_op ?_ | refine Eq.mpr wp_cons ?_ | refine Eq.mpr wp_d ?_ | refine Eq.mpr wp_ret ?_ | refine Eq.mpr wp_valA ?_ | refine Eq.mpr wp_bd ?_ | refine Eq.mpr wp_andV ?_ | refine Eq.mpr wp_orV ?_ | refine Eq.mpr wp_notV ?_ | refine Eq.mpr wp_notZ ?_ | refine Eq.mpr wp_andZ ?_ | refine Eq.mpr wp_orZ ?_ | refine Eq.mpr wp_lst ?_ | refine Eq.mpr wp_tup ?_ | refine Eq.mpr wp_drop ?_ | refine Eq.mpr wp_bl ?_ | refine Eq.mpr wp_ch ?_ | refine Eq.mpr wp_slLh ?_ | refine Eq.mpr wp_up ?_ | refine Eq.mpr wp_join ?_ | refine Eq.mpr wp_comp ?_ | refine Eq.mpr wp_vw ?_ | refine Eq.mpr wp_opt ?_ | refine z_rd (by with_unfolding_all rfl) ?_ | refine z_pk (by with_unfolding_all rfl) ?_ | refine z_mv (by with_unfolding_all rfl) (by simp only [restG, wipeG, List.set_cons_zero, List.set_cons_succ, List.getElem?_cons_zero, List.getElem?_cons_succ, Option.getD_some]; with_unfolding_all rfl) ?_ | refine z_fz (by with_unfolding_all rfl) ?_ | refine z_fzL (by with_unfolding_all rfl) (by with_unfolding_all rfl) (by simp only [restG, wipeG, List.set_cons_zero, List.set_cons_succ, List.getElem?_cons_zero, List.getElem?_cons_succ, Option.getD_some]; with_unfolding_all rfl) ?_ | refine z_set (by simp only [restG, wipeG, List.set_cons_zero, List.set_cons_succ, List.getElem?_cons_zero, List.getElem?_cons_succ, Option.getD_some]; with_unfolding_all rfl) ?_ | refine z_sl (by with_unfolding_all rfl) ?_ | refine z_addI ?_ | refine z_subI ?_ | refine z_mulI (by first | exact mulC_l | exact mulC_r) ?_ | refine z_divI (by omega) (by omega) ?_ | refine z_modI (by omega) ?_ | refine z_powI (by with_unfolding_all rfl) ?_ | refine z_negI ?_ | refine z_ltI ?_ | refine z_leI ?_ | refine z_gtI ?_ | refine z_geI ?_ | refine z_maxI ?_ | refine z_minI ?_ | refine z_eqI ?_ | refine z_eqB ?_ | refine Eq.mpr wp_isi ?_ | refine z_neI ?_ | refine z_eqS ?_ | refine z_neS ?_ | refine z_lenG ?_ | refine z_lenGT ?_ | refine z_lenL ?_ | refine z_lenT ?_ | refine z_lenO ?_ | refine z_lenS (by omega) ?_ | refine z_slHi (by omega) ?_ | refine z_slLo (by omega) ?_ | refine z_slB (by omega) ?_ | refine z_addS (by with_unfolding_all ((try simp only [len_app]); omega)) ?_ | refine z_itL ?_ | refine z_itT ?_ | refine z_itS ?_ | refine z_itgL ?_ | refine z_itgT ?_ | refine z_call ?_ | refine z_cw (by with_unfolding_all rfl) (by simp only [List.map_nil, List.append_nil]; rfl) ?_ | refine z_back (by with_unfolding_all rfl) (by simp only [giveA, List.length_cons, List.length_nil, List.take_succ_cons, List.take_zero, List.getElem?_cons_zero, List.getElem?_cons_succ, List.set_cons_zero, List.set_cons_succ]; with_unfolding_all rfl) ?_ | refine z_fin (by with_unfolding_all rfl) ?_)
          refine z_in inB_ch ?_
          repeat (with_reducible first | refine z_lenOk (by with_unfolding_all rfl) ?_ | refine Eq.mpr optW_some ?_ | refine Eq.mpr fw_ok ?_ | refine Eq.mpr wp_seq ?_ | refine Eq.mpr wp_asg ?_ | refine Eq.mpr wp_retM ?_ | refine Eq.mpr wp_if ?_ | refine Eq.mpr wp_tst ?_ | refine Eq.mpr wp_op ?_ | refine Eq.mpr wp_cons ?_ | refine Eq.mpr wp_d ?_ | refine Eq.mpr wp_ret ?_ | refine Eq.mpr wp_valA ?_ | refine Eq.mpr wp_bd ?_ | refine Eq.mpr wp_andV ?_ | refine Eq.mpr wp_orV ?_ | refine Eq.mpr wp_notV ?_ | refine Eq.mpr wp_notZ ?_ | refine Eq.mpr wp_andZ ?_ | refine Eq.mpr wp_orZ ?_ | refine Eq.mpr wp_lst ?_ | refine Eq.mpr wp_tup ?_ | refine Eq.mpr wp_drop ?_ | refine Eq.mpr wp_bl ?_ | refine Eq.mpr wp_ch ?_ | refine Eq.mpr wp_slLh ?_ | refine Eq.mpr wp_up ?_ | refine Eq.mpr wp_join ?_ | refine Eq.mpr wp_comp ?_ | refine Eq.mpr wp_vw ?_ | refine Eq.mpr wp_opt ?_ | refine z_rd (by with_unfolding_all rfl) ?_ | refine z_pk (by with_unfolding_all rfl) ?_ | refine z_mv (by with_unfolding_all rfl) (by simp only [restG, wipeG, List.set_cons_zero, List.set_cons_succ, List.getElem?_cons_zero, List.getElem?_cons_succ, Option.getD_some]; with_unfolding_all rfl) ?_ | refine z_fz (by with_unfolding_all rfl) ?_ | refine z_fzL (by with_unfolding_all rfl) (by with_unfolding_all rfl) (by simp only [restG, wipeG, List.set_cons_zero, List.set_cons_succ, List.getElem?_cons_zero, List.getElem?_cons_succ, Option.getD_some]; with_unfolding_all rfl) ?_ | refine z_set (by simp only [restG, wipeG, List.set_cons_zero, List.set_cons_succ, List.getElem?_cons_zero, List.getElem?_cons_succ, Option.getD_some]; with_unfolding_all rfl) ?_ | refine z_sl (by with_unfolding_all rfl) ?_ | refine z_addI ?_ | refine z_subI ?_ | refine z_mulI (by first | exact mulC_l | exact mulC_r) ?_ | refine z_divI (by omega) (by omega) ?_ | refine z_modI (by omega) ?_ | refine z_powI (by with_unfolding_all rfl) ?_ | refine z_negI ?_ | refine z_ltI ?_ | refine z_leI ?_ | refine z_gtI ?_ | refine z_geI ?_ | refine z_maxI ?_ | refine z_minI ?_ | refine z_eqI ?_ | refine z_eqB ?_ | refine Eq.mpr wp_isi ?_ | refine z_neI ?_ | refine z_eqS ?_ | refine z_neS ?_ | refine z_lenG ?_ | refine z_lenGT ?_ | refine z_lenL ?_ | refine z_lenT ?_ | refine z_lenO ?_ | refine z_lenS (by omega) ?_ | refine z_slHi (by omega) ?_ | refine z_slLo (by omega) ?_ | refine z_slB (by omega) ?_ | refine z_addS (by with_unfolding_all ((try simp only [len_app]); omega)) ?_ | refine z_itL ?_ | refine z_itT ?_ | refine z_itS ?_ | refine z_itgL ?_ | refine z_itgT ?_ | refine z_call ?_ | refine z_cw (by with_unfolding_all rfl) (by simp only [List.map_nil, List.append_nil]; rfl) ?_ | refine z_back (by with_unfolding_all rfl) (by simp only [giveA, List.length_cons, List.length_nil, List.take_succ_cons, List.take_zero, List.getElem?_cons_zero, List.getElem?_cons_succ, List.set_cons_zero, List.set_cons_succ]; with_unfolding_all rfl) ?_ | refine z_fin (by with_unfolding_all rfl) ?_)
          exact ⟨rfl, rfl⟩
        · repeat (with_reducible first | refine z_lenOk (by with_unfolding_all rfl) ?_ | refine Eq.mpr optW_some ?_ | refine Eq.mpr fw_ok ?_ | refine Eq.mpr wp_seq ?_ | refine Eq.mpr wp_asg ?_ | refine Eq.mpr wp_retM ?_ | refine Eq.mpr wp_if ?_ | refine Eq.mpr wp_tst ?_ | refine Eq.mpr wp_op ?_ | refine Eq.mpr wp_cons ?_ | refine Eq.mpr wp_d ?_ | refine Eq.mpr wp_ret ?_ | refine Eq.mpr wp_valA ?_ | refine Eq.mpr wp_bd ?_ | refine Eq.mpr wp_andV ?_ | refine Eq.mpr wp_orV ?_ | refine Eq.mpr wp_notV ?_ | refine Eq.mpr wp_notZ ?_ | refine Eq.mpr wp_andZ ?_ | refine Eq.mpr wp_orZ ?_ | refine Eq.mpr wp_lst ?_ | refine Eq.mpr wp_tup ?_ | refine Eq.mpr wp_drop ?_ | refine Eq.mpr wp_bl ?_ | refine Eq.mpr wp_ch ?_ | refine Eq.mpr wp_slLh ?_ | refine Eq.mpr wp_up ?_ | refine Eq.mpr wp_join ?_ | refine Eq.mpr wp_comp ?_ | refine Eq.mpr wp_vw ?_ | refine Eq.mpr wp_opt ?_ | refine z_rd (by with_unfolding_all rfl) ?_ | refine z_pk (by with_unfolding_all rfl) ?_ | refine z_mv (by with_unfolding_all rfl) (by simp only [restG, wipeG, List.set_cons_zero, List.set_cons_succ, List.getElem?_cons_zero, List.getElem?_cons_succ, Option.getD_some]; with_unfolding_all rfl) ?_ | refine z_fz (by with_unfolding_all rfl) ?_ | refine z_fzL (by with_unfolding_all rfl) (by with_unfolding_all rfl) (by simp only [restG, wipeG, List.set_cons_zero, List.set_cons_succ, List.getElem?_cons_zero, List.getElem?_cons_succ, Option.getD_some]; with_unfolding_all rfl) ?_ | refine z_set (by simp only [restG, wipeG, List.set_cons_zero, List.set_cons_succ, List.getElem?_cons_zero, List.getElem?_cons_succ, Option.getD_some]; with_unfolding_all rfl) ?_ | refine z_sl (by with_unfolding_all rfl) ?_ | refine z_addI ?_ | refine z_subI ?_ | refine z_mulI (by first | exact mulC_l | exact mulC_r) ?_ | refine z_divI (by omega) (by omega) ?_ | refine z_modI (by omega) ?_ | refine z_powI (by with_unfolding_all rfl) ?_ | refine z_negI ?_ | refine z_ltI ?_ | refine z_leI ?_ | refine z_gtI ?_ | refine z_geI ?_ | refine z_maxI ?_ | refine z_minI ?_ | refine z_eqI ?_ | refine z_eqB ?_ | refine Eq.mpr wp_isi ?_ | refine z_neI ?_ | refine z_eqS ?_ | refine z_neS ?_ | refine z_lenG ?_ | refine z_lenGT ?_ | refine z_lenL ?_ | refine z_lenT ?_ | refine z_lenO ?_ | refine z_lenS (by omega) ?_ | refine z_slHi (by omega) ?_ | refine z_slLo (by omega) ?_ | refine z_slB (by omega) ?_ | refine z_addS (by with_unfolding_all ((try simp only [len_app]); omega)) ?_ | refine z_itL ?_ | refine z_itT ?_ | refine z_itS ?_ | refine z_itgL ?_ | refine z_itgT ?_ | refine z_call ?_ | refine z_cw (by with_unfolding_all rfl) (by simp only [List.map_nil, List.append_nil]; rfl) ?_ | refine z_back (by with_unfolding_all rfl) (by simp only [giveA, List.length_cons, List.length_nil, List.take_succ_cons, List.take_zero, List.getElem?_cons_zero, List.getElem?_cons_succ, List.set_cons_zero, List.set_cons_succ]; with_unfolding_all rfl) ?_ | refine z_fin (by with_unfolding_all rfl) ?_)
          rw [List.nil_append, allF_lst]
          repeat (with_reducible first | refine z_lenOk (by with_unfolding_all rfl) ?_ | refine Eq.mpr optW_some ?_ | refine Eq.mpr fw_ok ?_ | refine Eq.mpr wp_seq ?_ | refine Eq.mpr wp_asg ?_ | refine Eq.mpr wp_retM ?_ | refine Eq.mpr wp_if ?_ | refine Eq.mpr wp_tst ?_ | refine Eq.mpr wp_op ?_ | refine Eq.mpr wp_cons ?_ | refine Eq.mpr wp_d ?_ | refine Eq.mpr wp_ret ?_ | refine Eq.mpr wp_valA ?_ | refine Eq.mpr wp_bd ?_ | refine Eq.mpr wp_andV ?_ | refine Eq.mpr wp_orV ?_ | refine Eq.mpr wp_notV ?_ | refine Eq.mpr wp_notZ ?_ | refine Eq.mpr wp_andZ ?_ | refine Eq.mpr wp_orZ ?_ | refine Eq.mpr wp_lst ?_ | refine Eq.mpr wp_tup ?_ | refine Eq.mpr wp_drop ?_ | refine Eq.mpr wp_bl ?_ | refine Eq.mpr wp_ch ?_ | refine Eq.mpr wp_slLh ?_ | refine Eq.mpr wp_up ?_ | refine Eq.mpr wp_join ?_ | refine Eq.mpr wp_comp ?_ | refine Eq.mpr wp_vw ?_ | refine Eq.mpr wp_opt ?_ | refine z_rd (by with_unfolding_all rfl) ?_ | refine z_pk (by with_unfolding_all rfl) ?_ | refine z_mv (by with_unfolding_all rfl) (by simp only [restG, wipeG, List.set_cons_zero, List.set_cons_succ, List.getElem?_cons_zero, List.getElem?_cons_succ, Option.getD_some]; with_unfolding_all rfl) ?_ | refine z_fz (by with_unfolding_all rfl) ?_ | refine z_fzL (by with_unfolding_all rfl) (by with_unfolding_all rfl) (by simp only [restG, wipeG, List.set_cons_zero, List.set_cons_succ, List.getElem?_cons_zero, List.getElem?_cons_succ, Option.getD_some]; with_unfolding_all rfl) ?_ | refine z_set (by simp only [restG, wipeG, List.set_cons_zero, List.set_cons_succ, List.getElem?_cons_zero, List.getElem?_cons_succ, Option.getD_some]; with_unfolding_all rfl) ?_ | refine z_sl (by with_unfolding_all rfl) ?_ | refine z_addI ?_ | refine z_subI ?_ | refine z_mulI (by first | exact mulC_l | exact mulC_r) ?_ | refine z_divI (by omega) (by omega) ?_ | refine z_modI (by omega) ?_ | refine z_powI (by with_unfolding_all rfl) ?_ | refine z_negI ?_ | refine z_ltI ?_ | refine z_leI ?_ | refine z_gtI ?_ | refine z_geI ?_ | refine z_maxI ?_ | refine z_minI ?_ | refine z_eqI ?_ | refine z_eqB ?_ | refine Eq.mpr wp_isi ?_ | refine z_neI ?_ | refine z_eqS ?_ | refine z_neS ?_ | refine z_lenG ?_ | refine z_lenGT ?_ | refine z_lenL ?_ | refine z_lenT ?_ | refine z_lenO ?_ | refine z_lenS (by omega) ?_ | refine z_slHi (by omega) ?_ | refine z_slLo (by omega) ?_ | refine z_slB (by omega) ?_ | refine z_addS (by with_unfolding_all ((try simp only [len_app]); omega)) ?_ | refine z_itL ?_ | refine z_itT ?_ | refine z_itS ?_ | refine z_itgL ?_ | refine z_itgT ?_ | refine z_call ?_ | refine z_cw (by with_unfolding_all rfl) (by simp only [List.map_nil, List.append_nil]; rfl) ?_ | refine z_back (by with_unfolding_all rfl) (by simp only [giveA, List.length_cons, List.length_nil, List.take_succ_cons, List.take_zero, List.getElem?_cons_zero, List.getElem?_cons_succ, List.set_cons_zero, List.set_cons_succ]; with_unfolding_all rfl) ?_ | refine z_fin (by with_unfolding_all rfl) ?_)
          have e : nmB w = w.cps.toList.all fun c => decide (c ∈ lets.cps.toList) := by
            simp only [decide_eq_true_eq] at h1 h2
            have h4 : takB w = false := by simpa [takB, takenD] using h3
            have h5 : 0 < w.length ∧ w.length ≤ 5 := by omega
            simp [nmB, h4, h5]
          rw [← e]
          exact k
      · repeat (with_reducible first | refine z_lenOk (by with_unfolding_all rfl) ?_ | refine Eq.mpr optW_some ?_ | refine Eq.mpr fw_ok ?_ | refine Eq.mpr wp_seq ?_ | refine Eq.mpr wp_asg ?_ | refine Eq.mpr wp_retM ?_ | refine Eq.mpr wp_if ?_ | refine Eq.mpr wp_tst ?_ | refine Eq.mpr wp_op ?_ | refine Eq.mpr wp_cons ?_ | refine Eq.mpr wp_d ?_ | refine Eq.mpr wp_ret ?_ | refine Eq.mpr wp_valA ?_ | refine Eq.mpr wp_bd ?_ | refine Eq.mpr wp_andV ?_ | refine Eq.mpr wp_orV ?_ | refine Eq.mpr wp_notV ?_ | refine Eq.mpr wp_notZ ?_ | refine Eq.mpr wp_andZ ?_ | refine Eq.mpr wp_orZ ?_ | refine Eq.mpr wp_lst ?_ | refine Eq.mpr wp_tup ?_ | refine Eq.mpr wp_drop ?_ | refine Eq.mpr wp_bl ?_ | refine Eq.mpr wp_ch ?_ | refine Eq.mpr wp_slLh ?_ | refine Eq.mpr wp_up ?_ | refine Eq.mpr wp_join ?_ | refine Eq.mpr wp_comp ?_ | refine Eq.mpr wp_vw ?_ | refine Eq.mpr wp_opt ?_ | refine z_rd (by with_unfolding_all rfl) ?_ | refine z_pk (by with_unfolding_all rfl) ?_ | refine z_mv (by with_unfolding_all rfl) (by simp only [restG, wipeG, List.set_cons_zero, List.set_cons_succ, List.getElem?_cons_zero, List.getElem?_cons_succ, Option.getD_some]; with_unfolding_all rfl) ?_ | refine z_fz (by with_unfolding_all rfl) ?_ | refine z_fzL (by with_unfolding_all rfl) (by with_unfolding_all rfl) (by simp only [restG, wipeG, List.set_cons_zero, List.set_cons_succ, List.getElem?_cons_zero, List.getElem?_cons_succ, Option.getD_some]; with_unfolding_all rfl) ?_ | refine z_set (by simp only [restG, wipeG, List.set_cons_zero, List.set_cons_succ, List.getElem?_cons_zero, List.getElem?_cons_succ, Option.getD_some]; with_unfolding_all rfl) ?_ | refine z_sl (by with_unfolding_all rfl) ?_ | refine z_addI ?_ | refine z_subI ?_ | refine z_mulI (by first | exact mulC_l | exact mulC_r) ?_ | refine z_divI (by omega) (by omega) ?_ | refine z_modI (by omega) ?_ | refine z_powI (by with_unfolding_all rfl) ?_ | refine z_negI ?_ | refine z_ltI ?_ | refine z_leI ?_ | refine z_gtI ?_ | refine z_geI ?_ | refine z_maxI ?_ | refine z_minI ?_ | refine z_eqI ?_ | refine z_eqB ?_ | refine Eq.mpr wp_isi ?_ | refine z_neI ?_ | refine z_eqS ?_ | refine z_neS ?_ | refine z_lenG ?_ | refine z_lenGT ?_ | refine z_lenL ?_ | refine z_lenT ?_ | refine z_lenO ?_ | refine z_lenS (by omega) ?_ | refine z_slHi (by omega) ?_ | refine z_slLo (by omega) ?_ | refine z_slB (by omega) ?_ | refine z_addS (by with_unfolding_all ((try simp only [len_app]); omega)) ?_ | refine z_itL ?_ | refine z_itT ?_ | refine z_itS ?_ | refine z_itgL ?_ | refine z_itgT ?_ | refine z_call ?_ | refine z_cw (by with_unfolding_all rfl) (by simp only [List.map_nil, List.append_nil]; rfl) ?_ | refine z_back (by with_unfolding_all rfl) (by simp only [giveA, List.length_cons, List.length_nil, List.take_succ_cons, List.take_zero, List.getElem?_cons_zero, List.getElem?_cons_succ, List.set_cons_zero, List.set_cons_succ]; with_unfolding_all rfl) ?_ | refine z_fin (by with_unfolding_all rfl) ?_)
        have e : nmB w = false := by
          simp only [decide_eq_true_eq] at h1 h2
          have h5 : ¬ (0 < w.length ∧ w.length ≤ 5) := by omega
          simp only [nmB, decide_eq_false h5, Bool.false_and]
        rw [e] at k
        exact k
    · repeat (with_reducible first | refine z_lenOk (by with_unfolding_all rfl) ?_ | refine Eq.mpr optW_some ?_ | refine Eq.mpr fw_ok ?_ | refine Eq.mpr wp_seq ?_ | refine Eq.mpr wp_asg ?_ | refine Eq.mpr wp_retM ?_ | refine Eq.mpr wp_if ?_ | refine Eq.mpr wp_tst ?_ | refine Eq.mpr wp_op ?_ | refine Eq.mpr wp_cons ?_ | refine Eq.mpr wp_d ?_ | refine Eq.mpr wp_ret ?_ | refine Eq.mpr wp_valA ?_ | refine Eq.mpr wp_bd ?_ | refine Eq.mpr wp_andV ?_ | refine Eq.mpr wp_orV ?_ | refine Eq.mpr wp_notV ?_ | refine Eq.mpr wp_notZ ?_ | refine Eq.mpr wp_andZ ?_ | refine Eq.mpr wp_orZ ?_ | refine Eq.mpr wp_lst ?_ | refine Eq.mpr wp_tup ?_ | refine Eq.mpr wp_drop ?_ | refine Eq.mpr wp_bl ?_ | refine Eq.mpr wp_ch ?_ | refine Eq.mpr wp_slLh ?_ | refine Eq.mpr wp_up ?_ | refine Eq.mpr wp_join ?_ | refine Eq.mpr wp_comp ?_ | refine Eq.mpr wp_vw ?_ | refine Eq.mpr wp_opt ?_ | refine z_rd (by with_unfolding_all rfl) ?_ | refine z_pk (by with_unfolding_all rfl) ?_ | refine z_mv (by with_unfolding_all rfl) (by simp only [restG, wipeG, List.set_cons_zero, List.set_cons_succ, List.getElem?_cons_zero, List.getElem?_cons_succ, Option.getD_some]; with_unfolding_all rfl) ?_ | refine z_fz (by with_unfolding_all rfl) ?_ | refine z_fzL (by with_unfolding_all rfl) (by with_unfolding_all rfl) (by simp only [restG, wipeG, List.set_cons_zero, List.set_cons_succ, List.getElem?_cons_zero, List.getElem?_cons_succ, Option.getD_some]; with_unfolding_all rfl) ?_ | refine z_set (by simp only [restG, wipeG, List.set_cons_zero, List.set_cons_succ, List.getElem?_cons_zero, List.getElem?_cons_succ, Option.getD_some]; with_unfolding_all rfl) ?_ | refine z_sl (by with_unfolding_all rfl) ?_ | refine z_addI ?_ | refine z_subI ?_ | refine z_mulI (by first | exact mulC_l | exact mulC_r) ?_ | refine z_divI (by omega) (by omega) ?_ | refine z_modI (by omega) ?_ | refine z_powI (by with_unfolding_all rfl) ?_ | refine z_negI ?_ | refine z_ltI ?_ | refine z_leI ?_ | refine z_gtI ?_ | refine z_geI ?_ | refine z_maxI ?_ | refine z_minI ?_ | refine z_eqI ?_ | refine z_eqB ?_ | refine Eq.mpr wp_isi ?_ | refine z_neI ?_ | refine z_eqS ?_ | refine z_neS ?_ | refine z_lenG ?_ | refine z_lenGT ?_ | refine z_lenL ?_ | refine z_lenT ?_ | refine z_lenO ?_ | refine z_lenS (by omega) ?_ | refine z_slHi (by omega) ?_ | refine z_slLo (by omega) ?_ | refine z_slB (by omega) ?_ | refine z_addS (by with_unfolding_all ((try simp only [len_app]); omega)) ?_ | refine z_itL ?_ | refine z_itT ?_ | refine z_itS ?_ | refine z_itgL ?_ | refine z_itgT ?_ | refine z_call ?_ | refine z_cw (by with_unfolding_all rfl) (by simp only [List.map_nil, List.append_nil]; rfl) ?_ | refine z_back (by with_unfolding_all rfl) (by simp only [giveA, List.length_cons, List.length_nil, List.take_succ_cons, List.take_zero, List.getElem?_cons_zero, List.getElem?_cons_succ, List.set_cons_zero, List.set_cons_succ]; with_unfolding_all rfl) ?_ | refine z_fin (by with_unfolding_all rfl) ?_)
      have e : nmB w = false := by
        simp only [decide_eq_true_eq] at h1
        have h5 : ¬ (0 < w.length ∧ w.length ≤ 5) := by omega
        simp only [nmB, decide_eq_false h5, Bool.false_and]
      rw [e] at k
      exact k
theorem fw_right {w : Str} (hw : w.length ≤ 1000) {A : O → List O → Prop} {B : Exn → Prop} (k : A (.d (.bool true)) [.d (.str w)]) : FW (f_law_right [.d (.str w)]) A B := by
  have q : kitB "bool" "bool" = some true := by decide +kernel
  refine z_run rfl rfl (by simp only [List.map_cons, List.map_nil, List.cons_append, List.nil_append, Nat.reduceSub, List.replicate_succ, List.replicate_zero]; rfl) ?_
  unfold g_law_right
  repeat (with_reducible first | refine z_lenOk (by with_unfolding_all rfl) ?_ | refine Eq.mpr optW_some ?_ | refine Eq.mpr fw_ok ?_ | refine Eq.mpr wp_seq ?_ | refine Eq.mpr wp_asg ?_ | refine Eq.mpr wp_retM ?_ | refine Eq.mpr wp_if ?_ | refine Eq.mpr wp_tst ?_ | refine Eq.mpr wp_op ?_ | refine Eq.mpr wp_cons ?_ | refine Eq.mpr wp_d ?_ | refine Eq.mpr wp_ret ?_ | refine Eq.mpr wp_valA ?_ | refine Eq.mpr wp_bd ?_ | refine Eq.mpr wp_andV ?_ | refine Eq.mpr wp_orV ?_ | refine Eq.mpr wp_notV ?_ | refine Eq.mpr wp_notZ ?_ | refine Eq.mpr wp_andZ ?_ | refine Eq.mpr wp_orZ ?_ | refine Eq.mpr wp_lst ?_ | refine Eq.mpr wp_tup ?_ | refine Eq.mpr wp_drop ?_ | refine Eq.mpr wp_bl ?_ | refine Eq.mpr wp_ch ?_ | refine Eq.mpr wp_slLh ?_ | refine Eq.mpr wp_up ?_ | refine Eq.mpr wp_join ?_ | refine Eq.mpr wp_comp ?_ | refine Eq.mpr wp_vw ?_ | refine Eq.mpr wp_opt ?_ | refine z_rd (by with_unfolding_all rfl) ?_ | refine z_pk (by with_unfolding_all rfl) ?_ | refine z_mv (by with_unfolding_all rfl) (by simp only [restG, wipeG, List.set_cons_zero, List.set_cons_succ, List.getElem?_cons_zero, List.getElem?_cons_succ, Option.getD_some]; with_unfolding_all rfl) ?_ | refine z_fz (by with_unfolding_all rfl) ?_ | refine z_fzL (by with_unfolding_all rfl) (by with_unfolding_all rfl) (by simp only [restG, wipeG, List.set_cons_zero, List.set_cons_succ, List.getElem?_cons_zero, List.getElem?_cons_succ, Option.getD_some]; with_unfolding_all rfl) ?_ | refine z_set (by simp only [restG, wipeG, List.set_cons_zero, List.set_cons_succ, List.getElem?_cons_zero, List.getElem?_cons_succ, Option.getD_some]; with_unfolding_all rfl) ?_ | refine z_sl (by with_unfolding_all rfl) ?_ | refine z_addI ?_ | refine z_subI ?_ | refine z_mulI (by first | exact mulC_l | exact mulC_r) ?_ | refine z_divI (by omega) (by omega) ?_ | refine z_modI (by omega) ?_ | refine z_powI (by with_unfolding_all rfl) ?_ | refine z_negI ?_ | refine z_ltI ?_ | refine z_leI ?_ | refine z_gtI ?_ | refine z_geI ?_ | refine z_maxI ?_ | refine z_minI ?_ | refine z_eqI ?_ | refine z_eqB ?_ | refine Eq.mpr wp_isi ?_ | refine z_neI ?_ | refine z_eqS ?_ | refine z_neS ?_ | refine z_lenG ?_ | refine z_lenGT ?_ | refine z_lenL ?_ | refine z_lenT ?_ | refine z_lenO ?_ | refine z_lenS (by omega) ?_ | refine z_slHi (by omega) ?_ | refine z_slLo (by omega) ?_ | refine z_slB (by omega) ?_ | refine z_addS (by with_unfolding_all ((try simp only [len_app]); omega)) ?_ | refine z_itL ?_ | refine z_itT ?_ | refine z_itS ?_ | refine z_itgL ?_ | refine z_itgT ?_ | refine z_call ?_ | refine z_cw (by with_unfolding_all rfl) (by simp only [List.map_nil, List.append_nil]; rfl) ?_ | refine z_back (by with_unfolding_all rfl) (by simp only [giveA, List.length_cons, List.length_nil, List.take_succ_cons, List.take_zero, List.getElem?_cons_zero, List.getElem?_cons_succ, List.set_cons_zero, List.set_cons_succ]; with_unfolding_all rfl) ?_ | refine z_fin (by with_unfolding_all rfl) ?_)
  refine fw_is hw ?_
  repeat (with_reducible first | refine z_lenOk (by with_unfolding_all rfl) ?_ | refine Eq.mpr optW_some ?_ | refine Eq.mpr fw_ok ?_ | refine Eq.mpr wp_seq ?_ | refine Eq.mpr wp_asg ?_ | refine Eq.mpr wp_retM ?_ | refine Eq.mpr wp_if ?_ | refine Eq.mpr wp_tst ?_ | refine Eq.mpr wp_op ?_ | refine Eq.mpr wp_cons ?_ | refine Eq.mpr wp_d ?_ | refine Eq.mpr wp_ret ?_ | refine Eq.mpr wp_valA ?_ | refine Eq.mpr wp_bd ?_ | refine Eq.mpr wp_andV ?_ | refine Eq.mpr wp_orV ?_ | refine Eq.mpr wp_notV ?_ | refine Eq.mpr wp_notZ ?_ | refine Eq.mpr wp_andZ ?_ | refine Eq.mpr wp_orZ ?_ | refine Eq.mpr wp_lst ?_ | refine Eq.mpr wp_tup ?_ | refine Eq.mpr wp_drop ?_ | refine Eq.mpr wp_bl ?_ | refine Eq.mpr wp_ch ?_ | refine Eq.mpr wp_slLh ?_ | refine Eq.mpr wp_up ?_ | refine Eq.mpr wp_join ?_ | refine Eq.mpr wp_comp ?_ | refine Eq.mpr wp_vw ?_ | refine Eq.mpr wp_opt ?_ | refine z_rd (by with_unfolding_all rfl) ?_ | refine z_pk (by with_unfolding_all rfl) ?_ | refine z_mv (by with_unfolding_all rfl) (by simp only [restG, wipeG, List.set_cons_zero, List.set_cons_succ, List.getElem?_cons_zero, List.getElem?_cons_succ, Option.getD_some]; with_unfolding_all rfl) ?_ | refine z_fz (by with_unfolding_all rfl) ?_ | refine z_fzL (by with_unfolding_all rfl) (by with_unfolding_all rfl) (by simp only [restG, wipeG, List.set_cons_zero, List.set_cons_succ, List.getElem?_cons_zero, List.getElem?_cons_succ, Option.getD_some]; with_unfolding_all rfl) ?_ | refine z_set (by simp only [restG, wipeG, List.set_cons_zero, List.set_cons_succ, List.getElem?_cons_zero, List.getElem?_cons_succ, Option.getD_some]; with_unfolding_all rfl) ?_ | refine z_sl (by with_unfolding_all rfl) ?_ | refine z_addI ?_ | refine z_subI ?_ | refine z_mulI (by first | exact mulC_l | exact mulC_r) ?_ | refine z_divI (by omega) (by omega) ?_ | refine z_modI (by omega) ?_ | refine z_powI (by with_unfolding_all rfl) ?_ | refine z_negI ?_ | refine z_ltI ?_ | refine z_leI ?_ | refine z_gtI ?_ | refine z_geI ?_ | refine z_maxI ?_ | refine z_minI ?_ | refine z_eqI ?_ | refine z_eqB ?_ | refine Eq.mpr wp_isi ?_ | refine z_neI ?_ | refine z_eqS ?_ | refine z_neS ?_ | refine z_lenG ?_ | refine z_lenGT ?_ | refine z_lenL ?_ | refine z_lenT ?_ | refine z_lenO ?_ | refine z_lenS (by omega) ?_ | refine z_slHi (by omega) ?_ | refine z_slLo (by omega) ?_ | refine z_slB (by omega) ?_ | refine z_addS (by with_unfolding_all ((try simp only [len_app]); omega)) ?_ | refine z_itL ?_ | refine z_itT ?_ | refine z_itS ?_ | refine z_itgL ?_ | refine z_itgT ?_ | refine z_call ?_ | refine z_cw (by with_unfolding_all rfl) (by simp only [List.map_nil, List.append_nil]; rfl) ?_ | refine z_back (by with_unfolding_all rfl) (by simp only [giveA, List.length_cons, List.length_nil, List.take_succ_cons, List.take_zero, List.getElem?_cons_zero, List.getElem?_cons_succ, List.set_cons_zero, List.set_cons_succ]; with_unfolding_all rfl) ?_ | refine z_fin (by with_unfolding_all rfl) ?_)
  refine z_isi (by simp [tyN]) q ?_
  repeat (with_reducible first | refine z_lenOk (by with_unfolding_all rfl) ?_ | refine Eq.mpr optW_some ?_ | refine Eq.mpr fw_ok ?_ | refine Eq.mpr wp_seq ?_ | refine Eq.mpr wp_asg ?_ | refine Eq.mpr wp_retM ?_ | refine Eq.mpr wp_if ?_ | refine Eq.mpr wp_tst ?_ | refine Eq.mpr wp_op ?_ | refine Eq.mpr wp_cons ?_ | refine Eq.mpr wp_d ?_ | refine Eq.mpr wp_ret ?_ | refine Eq.mpr wp_valA ?_ | refine Eq.mpr wp_bd ?_ | refine Eq.mpr wp_andV ?_ | refine Eq.mpr wp_orV ?_ | refine Eq.mpr wp_notV ?_ | refine Eq.mpr wp_notZ ?_ | refine Eq.mpr wp_andZ ?_ | refine Eq.mpr wp_orZ ?_ | refine Eq.mpr wp_lst ?_ | refine Eq.mpr wp_tup ?_ | refine Eq.mpr wp_drop ?_ | refine Eq.mpr wp_bl ?_ | refine Eq.mpr wp_ch ?_ | refine Eq.mpr wp_slLh ?_ | refine Eq.mpr wp_up ?_ | refine Eq.mpr wp_join ?_ | refine Eq.mpr wp_comp ?_ | refine Eq.mpr wp_vw ?_ | refine Eq.mpr wp_opt ?_ | refine z_rd (by with_unfolding_all rfl) ?_ | refine z_pk (by with_unfolding_all rfl) ?_ | refine z_mv (by with_unfolding_all rfl) (by simp only [restG, wipeG, List.set_cons_zero, List.set_cons_succ, List.getElem?_cons_zero, List.getElem?_cons_succ, Option.getD_some]; with_unfolding_all rfl) ?_ | refine z_fz (by with_unfolding_all rfl) ?_ | refine z_fzL (by with_unfolding_all rfl) (by with_unfolding_all rfl) (by simp only [restG, wipeG, List.set_cons_zero, List.set_cons_succ, List.getElem?_cons_zero, List.getElem?_cons_succ, Option.getD_some]; with_unfolding_all rfl) ?_ | refine z_set (by simp only [restG, wipeG, List.set_cons_zero, List.set_cons_succ, List.getElem?_cons_zero, List.getElem?_cons_succ, Option.getD_some]; with_unfolding_all rfl) ?_ | refine z_sl (by with_unfolding_all rfl) ?_ | refine z_addI ?_ | refine z_subI ?_ | refine z_mulI (by first | exact mulC_l | exact mulC_r) ?_ | refine z_divI (by omega) (by omega) ?_ | refine z_modI (by omega) ?_ | refine z_powI (by with_unfolding_all rfl) ?_ | refine z_negI ?_ | refine z_ltI ?_ | refine z_leI ?_ | refine z_gtI ?_ | refine z_geI ?_ | refine z_maxI ?_ | refine z_minI ?_ | refine z_eqI ?_ | refine z_eqB ?_ | refine Eq.mpr wp_isi ?_ | refine z_neI ?_ | refine z_eqS ?_ | refine z_neS ?_ | refine z_lenG ?_ | refine z_lenGT ?_ | refine z_lenL ?_ | refine z_lenT ?_ | refine z_lenO ?_ | refine z_lenS (by omega) ?_ | refine z_slHi (by omega) ?_ | refine z_slLo (by omega) ?_ | refine z_slB (by omega) ?_ | refine z_addS (by with_unfolding_all ((try simp only [len_app]); omega)) ?_ | refine z_itL ?_ | refine z_itT ?_ | refine z_itS ?_ | refine z_itgL ?_ | refine z_itgT ?_ | refine z_call ?_ | refine z_cw (by with_unfolding_all rfl) (by simp only [List.map_nil, List.append_nil]; rfl) ?_ | refine z_back (by with_unfolding_all rfl) (by simp only [giveA, List.length_cons, List.length_nil, List.take_succ_cons, List.take_zero, List.getElem?_cons_zero, List.getElem?_cons_succ, List.set_cons_zero, List.set_cons_succ]; with_unfolding_all rfl) ?_ | refine z_fin (by with_unfolding_all rfl) ?_)
  refine z_ifT rfl ?_
  repeat (with_reducible first | refine z_lenOk (by with_unfolding_all rfl) ?_ | refine Eq.mpr optW_some ?_ | refine Eq.mpr fw_ok ?_ | refine Eq.mpr wp_seq ?_ | refine Eq.mpr wp_asg ?_ | refine Eq.mpr wp_retM ?_ | refine Eq.mpr wp_if ?_ | refine Eq.mpr wp_tst ?_ | refine Eq.mpr wp_op ?_ | refine Eq.mpr wp_cons ?_ | refine Eq.mpr wp_d ?_ | refine Eq.mpr wp_ret ?_ | refine Eq.mpr wp_valA ?_ | refine Eq.mpr wp_bd ?_ | refine Eq.mpr wp_andV ?_ | refine Eq.mpr wp_orV ?_ | refine Eq.mpr wp_notV ?_ | refine Eq.mpr wp_notZ ?_ | refine Eq.mpr wp_andZ ?_ | refine Eq.mpr wp_orZ ?_ | refine Eq.mpr wp_lst ?_ | refine Eq.mpr wp_tup ?_ | refine Eq.mpr wp_drop ?_ | refine Eq.mpr wp_bl ?_ | refine Eq.mpr wp_ch ?_ | refine Eq.mpr wp_slLh ?_ | refine Eq.mpr wp_up ?_ | refine Eq.mpr wp_join ?_ | refine Eq.mpr wp_comp ?_ | refine Eq.mpr wp_vw ?_ | refine Eq.mpr wp_opt ?_ | refine z_rd (by with_unfolding_all rfl) ?_ | refine z_pk (by with_unfolding_all rfl) ?_ | refine z_mv (by with_unfolding_all rfl) (by simp only [restG, wipeG, List.set_cons_zero, List.set_cons_succ, List.getElem?_cons_zero, List.getElem?_cons_succ, Option.getD_some]; with_unfolding_all rfl) ?_ | refine z_fz (by with_unfolding_all rfl) ?_ | refine z_fzL (by with_unfolding_all rfl) (by with_unfolding_all rfl) (by simp only [restG, wipeG, List.set_cons_zero, List.set_cons_succ, List.getElem?_cons_zero, List.getElem?_cons_succ, Option.getD_some]; with_unfolding_all rfl) ?_ | refine z_set (by simp only [restG, wipeG, List.set_cons_zero, List.set_cons_succ, List.getElem?_cons_zero, List.getElem?_cons_succ, Option.getD_some]; with_unfolding_all rfl) ?_ | refine z_sl (by with_unfolding_all rfl) ?_ | refine z_addI ?_ | refine z_subI ?_ | refine z_mulI (by first | exact mulC_l | exact mulC_r) ?_ | refine z_divI (by omega) (by omega) ?_ | refine z_modI (by omega) ?_ | refine z_powI (by with_unfolding_all rfl) ?_ | refine z_negI ?_ | refine z_ltI ?_ | refine z_leI ?_ | refine z_gtI ?_ | refine z_geI ?_ | refine z_maxI ?_ | refine z_minI ?_ | refine z_eqI ?_ | refine z_eqB ?_ | refine Eq.mpr wp_isi ?_ | refine z_neI ?_ | refine z_eqS ?_ | refine z_neS ?_ | refine z_lenG ?_ | refine z_lenGT ?_ | refine z_lenL ?_ | refine z_lenT ?_ | refine z_lenO ?_ | refine z_lenS (by omega) ?_ | refine z_slHi (by omega) ?_ | refine z_slLo (by omega) ?_ | refine z_slB (by omega) ?_ | refine z_addS (by with_unfolding_all ((try simp only [len_app]); omega)) ?_ | refine z_itL ?_ | refine z_itT ?_ | refine z_itS ?_ | refine z_itgL ?_ | refine z_itgT ?_ | refine z_call ?_ | refine z_cw (by with_unfolding_all rfl) (by simp only [List.map_nil, List.append_nil]; rfl) ?_ | refine z_back (by with_unfolding_all rfl) (by simp only [giveA, List.length_cons, List.length_nil, List.take_succ_cons, List.take_zero, List.getElem?_cons_zero, List.getElem?_cons_succ, List.set_cons_zero, List.set_cons_succ]; with_unfolding_all rfl) ?_ | refine z_fin (by with_unfolding_all rfl) ?_)
  refine fw_due hw ?_
  repeat (with_reducible first | refine z_lenOk (by with_unfolding_all rfl) ?_ | refine Eq.mpr optW_some ?_ | refine Eq.mpr fw_ok ?_ | refine Eq.mpr wp_seq ?_ | refine Eq.mpr wp_asg ?_ | refine Eq.mpr wp_retM ?_ | refine Eq.mpr wp_if ?_ | refine Eq.mpr wp_tst ?_ | refine Eq.mpr wp_op ?_ | refine Eq.mpr wp_cons ?_ | refine Eq.mpr wp_d ?_ | refine Eq.mpr wp_ret ?_ | refine Eq.mpr wp_valA ?_ | refine Eq.mpr wp_bd ?_ | refine Eq.mpr wp_andV ?_ | refine Eq.mpr wp_orV ?_ | refine Eq.mpr wp_notV ?_ | refine Eq.mpr wp_notZ ?_ | refine Eq.mpr wp_andZ ?_ | refine Eq.mpr wp_orZ ?_ | refine Eq.mpr wp_lst ?_ | refine Eq.mpr wp_tup ?_ | refine Eq.mpr wp_drop ?_ | refine Eq.mpr wp_bl ?_ | refine Eq.mpr wp_ch ?_ | refine Eq.mpr wp_slLh ?_ | refine Eq.mpr wp_up ?_ | refine Eq.mpr wp_join ?_ | refine Eq.mpr wp_comp ?_ | refine Eq.mpr wp_vw ?_ | refine Eq.mpr wp_opt ?_ | refine z_rd (by with_unfolding_all rfl) ?_ | refine z_pk (by with_unfolding_all rfl) ?_ | refine z_mv (by with_unfolding_all rfl) (by simp only [restG, wipeG, List.set_cons_zero, List.set_cons_succ, List.getElem?_cons_zero, List.getElem?_cons_succ, Option.getD_some]; with_unfolding_all rfl) ?_ | refine z_fz (by with_unfolding_all rfl) ?_ | refine z_fzL (by with_unfolding_all rfl) (by with_unfolding_all rfl) (by simp only [restG, wipeG, List.set_cons_zero, List.set_cons_succ, List.getElem?_cons_zero, List.getElem?_cons_succ, Option.getD_some]; with_unfolding_all rfl) ?_ | refine z_set (by simp only [restG, wipeG, List.set_cons_zero, List.set_cons_succ, List.getElem?_cons_zero, List.getElem?_cons_succ, Option.getD_some]; with_unfolding_all rfl) ?_ | refine z_sl (by with_unfolding_all rfl) ?_ | refine z_addI ?_ | refine z_subI ?_ | refine z_mulI (by first | exact mulC_l | exact mulC_r) ?_ | refine z_divI (by omega) (by omega) ?_ | refine z_modI (by omega) ?_ | refine z_powI (by with_unfolding_all rfl) ?_ | refine z_negI ?_ | refine z_ltI ?_ | refine z_leI ?_ | refine z_gtI ?_ | refine z_geI ?_ | refine z_maxI ?_ | refine z_minI ?_ | refine z_eqI ?_ | refine z_eqB ?_ | refine Eq.mpr wp_isi ?_ | refine z_neI ?_ | refine z_eqS ?_ | refine z_neS ?_ | refine z_lenG ?_ | refine z_lenGT ?_ | refine z_lenL ?_ | refine z_lenT ?_ | refine z_lenO ?_ | refine z_lenS (by omega) ?_ | refine z_slHi (by omega) ?_ | refine z_slLo (by omega) ?_ | refine z_slB (by omega) ?_ | refine z_addS (by with_unfolding_all ((try simp only [len_app]); omega)) ?_ | refine z_itL ?_ | refine z_itT ?_ | refine z_itS ?_ | refine z_itgL ?_ | refine z_itgT ?_ | refine z_call ?_ | refine z_cw (by with_unfolding_all rfl) (by simp only [List.map_nil, List.append_nil]; rfl) ?_ | refine z_back (by with_unfolding_all rfl) (by simp only [giveA, List.length_cons, List.length_nil, List.take_succ_cons, List.take_zero, List.getElem?_cons_zero, List.getElem?_cons_succ, List.set_cons_zero, List.set_cons_succ]; with_unfolding_all rfl) ?_ | refine z_fin (by with_unfolding_all rfl) ?_)
  rw [beq_self_eq_true]
  exact k
theorem fw_box {ns : List Int} {i : Nat} {A : O → List O → Prop} {B : Exn → Prop} (k : ∀ c s : Int, A (.lst [.d (.int c), .d (.int s)]) [.gL (ns.map PyData.int), .d (.int i)]) : FW (f_law_box [.gL (ns.map PyData.int), .d (.int i)]) A B := by
  refine z_run rfl rfl (by simp only [List.map_cons, List.map_nil, List.cons_append, List.nil_append, Nat.reduceSub, List.replicate_succ, List.replicate_zero]; rfl) ?_
  unfold g_law_box
  repeat (with_reducible first | refine z_lenOk (by with_unfolding_all rfl) ?_ | refine Eq.mpr optW_some ?_ | refine Eq.mpr fw_ok ?_ | refine Eq.mpr wp_seq ?_ | refine Eq.mpr wp_asg ?_ | refine Eq.mpr wp_retM ?_ | refine Eq.mpr wp_tst ?_ | refine Eq.mpr wp_op ?_ | refine Eq.mpr wp_cons ?_ | refine Eq.mpr wp_d ?_ | refine Eq.mpr wp_ret ?_ | refine Eq.mpr wp_valA ?_ | refine Eq.mpr wp_bd ?_ | refine Eq.mpr wp_andV ?_ | refine Eq.mpr wp_orV ?_ | refine Eq.mpr wp_notV ?_ | refine Eq.mpr wp_notZ ?_ | refine Eq.mpr wp_andZ ?_ | refine Eq.mpr wp_orZ ?_ | refine Eq.mpr wp_lst ?_ | refine Eq.mpr wp_tup ?_ | refine Eq.mpr wp_drop ?_ | refine Eq.mpr wp_bl ?_ | refine Eq.mpr wp_ch ?_ | refine Eq.mpr wp_slLh ?_ | refine Eq.mpr wp_up ?_ | refine Eq.mpr wp_join ?_ | refine Eq.mpr wp_comp ?_ | refine Eq.mpr wp_vw ?_ | refine Eq.mpr wp_opt ?_ | refine z_rd (by with_unfolding_all rfl) ?_ | refine z_pk (by with_unfolding_all rfl) ?_ | refine z_mv (by with_unfolding_all rfl) (by simp only [restG, wipeG, List.set_cons_zero, List.set_cons_succ, List.getElem?_cons_zero, List.getElem?_cons_succ, Option.getD_some]; with_unfolding_all rfl) ?_ | refine z_fz (by with_unfolding_all rfl) ?_ | refine z_fzL (by with_unfolding_all rfl) (by with_unfolding_all rfl) (by simp only [restG, wipeG, List.set_cons_zero, List.set_cons_succ, List.getElem?_cons_zero, List.getElem?_cons_succ, Option.getD_some]; with_unfolding_all rfl) ?_ | refine z_set (by simp only [restG, wipeG, List.set_cons_zero, List.set_cons_succ, List.getElem?_cons_zero, List.getElem?_cons_succ, Option.getD_some]; with_unfolding_all rfl) ?_ | refine z_sl (by with_unfolding_all rfl) ?_ | refine z_addI ?_ | refine z_subI ?_ | refine z_mulI (by first | exact mulC_l | exact mulC_r) ?_ | refine z_divI (by omega) (by omega) ?_ | refine z_modI (by omega) ?_ | refine z_powI (by with_unfolding_all rfl) ?_ | refine z_negI ?_ | refine z_ltI ?_ | refine z_leI ?_ | refine z_gtI ?_ | refine z_geI ?_ | refine z_maxI ?_ | refine z_minI ?_ | refine z_eqI ?_ | refine z_eqB ?_ | refine Eq.mpr wp_isi ?_ | refine z_neI ?_ | refine z_eqS ?_ | refine z_neS ?_ | refine z_lenG ?_ | refine z_lenGT ?_ | refine z_lenL ?_ | refine z_lenT ?_ | refine z_lenO ?_ | refine z_lenS (by omega) ?_ | refine z_slHi (by omega) ?_ | refine z_slLo (by omega) ?_ | refine z_slB (by omega) ?_ | refine z_addS (by with_unfolding_all ((try simp only [len_app]); omega)) ?_ | refine z_itL ?_ | refine z_itT ?_ | refine z_itS ?_ | refine z_itgL ?_ | refine z_itgT ?_ | refine z_call ?_ | refine z_cw (by with_unfolding_all rfl) (by simp only [List.map_nil, List.append_nil]; rfl) ?_ | refine z_back (by with_unfolding_all rfl) (by simp only [giveA, List.length_cons, List.length_nil, List.take_succ_cons, List.take_zero, List.getElem?_cons_zero, List.getElem?_cons_succ, List.set_cons_zero, List.set_cons_succ]; with_unfolding_all rfl) ?_ | refine z_fin (by with_unfolding_all rfl) ?_)
  refine Wp.mono (A := fun fl g => fl = Fl.next ∧ ∃ c : Int, g = [some (.gL (ns.map PyData.int)), some (.d (.int i)), some (.d (.int c)), none]) (B := fun _ _ => False) ?_ ?_ (fun _ _ z => z.elim)
  · repeat (with_reducible first | refine z_lenOk (by with_unfolding_all rfl) ?_ | refine Eq.mpr optW_some ?_ | refine Eq.mpr fw_ok ?_ | refine Eq.mpr wp_seq ?_ | refine Eq.mpr wp_asg ?_ | refine Eq.mpr wp_retM ?_ | refine Eq.mpr wp_if ?_ | refine Eq.mpr wp_tst ?_ | refine Eq.mpr wp_op ?_ | refine Eq.mpr wp_cons ?_ | refine Eq.mpr wp_d ?_ | refine Eq.mpr wp_ret ?_ | refine Eq.mpr wp_valA ?_ | refine Eq.mpr wp_bd ?_ | refine Eq.mpr wp_andV ?_ | refine Eq.mpr wp_orV ?_ | refine Eq.mpr wp_notV ?_ | refine Eq.mpr wp_notZ ?_ | refine Eq.mpr wp_andZ ?_ | refine Eq.mpr wp_orZ ?_ | refine Eq.mpr wp_lst ?_ | refine Eq.mpr wp_tup ?_ | refine Eq.mpr wp_drop ?_ | refine Eq.mpr wp_bl ?_ | refine Eq.mpr wp_ch ?_ | refine Eq.mpr wp_slLh ?_ | refine Eq.mpr wp_up ?_ | refine Eq.mpr wp_join ?_ | refine Eq.mpr wp_comp ?_ | refine Eq.mpr wp_vw ?_ | refine Eq.mpr wp_opt ?_ | refine z_rd (by with_unfolding_all rfl) ?_ | refine z_pk (by with_unfolding_all rfl) ?_ | refine z_mv (by with_unfolding_all rfl) (by simp only [restG, wipeG, List.set_cons_zero, List.set_cons_succ, List.getElem?_cons_zero, List.getElem?_cons_succ, Option.getD_some]; with_unfolding_all rfl) ?_ | refine z_fz (by with_unfolding_all rfl) ?_ | refine z_fzL (by with_unfolding_all rfl) (by with_unfolding_all rfl) (by simp only [restG, wipeG, List.set_cons_zero, List.set_cons_succ, List.getElem?_cons_zero, List.getElem?_cons_succ, Option.getD_some]; with_unfolding_all rfl) ?_ | refine z_set (by simp only [restG, wipeG, List.set_cons_zero, List.set_cons_succ, List.getElem?_cons_zero, List.getElem?_cons_succ, Option.getD_some]; with_unfolding_all rfl) ?_ | refine z_sl (by with_unfolding_all rfl) ?_ | refine z_addI ?_ | refine z_subI ?_ | refine z_mulI (by first | exact mulC_l | exact mulC_r) ?_ | refine z_divI (by omega) (by omega) ?_ | refine z_modI (by omega) ?_ | refine z_powI (by with_unfolding_all rfl) ?_ | refine z_negI ?_ | refine z_ltI ?_ | refine z_leI ?_ | refine z_gtI ?_ | refine z_geI ?_ | refine z_maxI ?_ | refine z_minI ?_ | refine z_eqI ?_ | refine z_eqB ?_ | refine Eq.mpr wp_isi ?_ | refine z_neI ?_ | refine z_eqS ?_ | refine z_neS ?_ | refine z_lenG ?_ | refine z_lenGT ?_ | refine z_lenL ?_ | refine z_lenT ?_ | refine z_lenO ?_ | refine z_lenS (by omega) ?_ | refine z_slHi (by omega) ?_ | refine z_slLo (by omega) ?_ | refine z_slB (by omega) ?_ | refine z_addS (by with_unfolding_all ((try simp only [len_app]); omega)) ?_ | refine z_itL ?_ | refine z_itT ?_ | refine z_itS ?_ | refine z_itgL ?_ | refine z_itgT ?_ | refine z_call ?_ | refine z_cw (by with_unfolding_all rfl) (by simp only [List.map_nil, List.append_nil]; rfl) ?_ | refine z_back (by with_unfolding_all rfl) (by simp only [giveA, List.length_cons, List.length_nil, List.take_succ_cons, List.take_zero, List.getElem?_cons_zero, List.getElem?_cons_succ, List.set_cons_zero, List.set_cons_succ]; with_unfolding_all rfl) ?_ | refine z_fin (by with_unfolding_all rfl) ?_)
    refine z_ite (fun h1 => ?_) (fun h1 => ?_)
    · repeat (with_reducible first | refine z_lenOk (by with_unfolding_all rfl) ?_ | refine Eq.mpr optW_some ?_ | refine Eq.mpr fw_ok ?_ | refine Eq.mpr wp_seq ?_ | refine Eq.mpr wp_asg ?_ | refine Eq.mpr wp_retM ?_ | refine Eq.mpr wp_if ?_ | refine Eq.mpr wp_tst ?_ | refine Eq.mpr wp_op ?_ | refine Eq.mpr wp_cons ?_ | refine Eq.mpr wp_d ?_ | refine Eq.mpr wp_ret ?_ | refine Eq.mpr wp_valA ?_ | refine Eq.mpr wp_bd ?_ | refine Eq.mpr wp_andV ?_ | refine Eq.mpr wp_orV ?_ | refine Eq.mpr wp_notV ?_ | refine Eq.mpr wp_notZ ?_ | refine Eq.mpr wp_andZ ?_ | refine Eq.mpr wp_orZ ?_ | refine Eq.mpr wp_lst ?_ | refine Eq.mpr wp_tup ?_ | refine Eq.mpr wp_drop ?_ | refine Eq.mpr wp_bl ?_ | refine Eq.mpr wp_ch ?_ | refine Eq.mpr wp_slLh ?_ | refine Eq.mpr wp_up ?_ | refine Eq.mpr wp_join ?_ | refine Eq.mpr wp_comp ?_ | refine Eq.mpr wp_vw ?_ | refine Eq.mpr wp_opt ?_ | refine z_rd (by with_unfolding_all rfl) ?_ | refine z_pk (by with_unfolding_all rfl) ?_ | refine z_mv (by with_unfolding_all rfl) (by simp only [restG, wipeG, List.set_cons_zero, List.set_cons_succ, List.getElem?_cons_zero, List.getElem?_cons_succ, Option.getD_some]; with_unfolding_all rfl) ?_ | refine z_fz (by with_unfolding_all rfl) ?_ | refine z_fzL (by with_unfolding_all rfl) (by with_unfolding_all rfl) (by simp only [restG, wipeG, List.set_cons_zero, List.set_cons_succ, List.getElem?_cons_zero, List.getElem?_cons_succ, Option.getD_some]; with_unfolding_all rfl) ?_ | refine z_set (by simp only [restG, wipeG, List.set_cons_zero, List.set_cons_succ, List.getElem?_cons_zero, List.getElem?_cons_succ, Option.getD_some]; with_unfolding_all rfl) ?_ | refine z_sl (by with_unfolding_all rfl) ?_ | refine z_addI ?_ | refine z_subI ?_ | refine z_mulI (by first | exact mulC_l | exact mulC_r) ?_ | refine z_divI (by omega) (by omega) ?_ | refine z_modI (by omega) ?_ | refine z_powI (by with_unfolding_all rfl) ?_ | refine z_negI ?_ | refine z_ltI ?_ | refine z_leI ?_ | refine z_gtI ?_ | refine z_geI ?_ | refine z_maxI ?_ | refine z_minI ?_ | refine z_eqI ?_ | refine z_eqB ?_ | refine Eq.mpr wp_isi ?_ | refine z_neI ?_ | refine z_eqS ?_ | refine z_neS ?_ | refine z_lenG ?_ | refine z_lenGT ?_ | refine z_lenL ?_ | refine z_lenT ?_ | refine z_lenO ?_ | refine z_lenS (by omega) ?_ | refine z_slHi (by omega) ?_ | refine z_slLo (by omega) ?_ | refine z_slB (by omega) ?_ | refine z_addS (by with_unfolding_all ((try simp only [len_app]); omega)) ?_ | refine z_itL ?_ | refine z_itT ?_ | refine z_itS ?_ | refine z_itgL ?_ | refine z_itgT ?_ | refine z_call ?_ | refine z_cw (by with_unfolding_all rfl) (by simp only [List.map_nil, List.append_nil]; rfl) ?_ | refine z_back (by with_unfolding_all rfl) (by simp only [giveA, List.length_cons, List.length_nil, List.take_succ_cons, List.take_zero, List.getElem?_cons_zero, List.getElem?_cons_succ, List.set_cons_zero, List.set_cons_succ]; with_unfolding_all rfl) ?_ | refine z_fin (by with_unfolding_all rfl) ?_)
      refine optW_ix asLT_gL (by omega) (of_decide_eq_true h1) fun x hx => ?_
      obtain ⟨n, _, rfl⟩ := List.mem_map.mp hx
      repeat (with_reducible first | refine z_lenOk (by with_unfolding_all rfl) ?_ | refine Eq.mpr optW_some ?_ | refine Eq.mpr fw_ok ?_ | refine Eq.mpr wp_seq ?_ | refine Eq.mpr wp_asg ?_ | refine Eq.mpr wp_retM ?_ | refine Eq.mpr wp_if ?_ | refine Eq.mpr wp_tst ?_ | refine Eq.mpr wp_op ?_ | refine Eq.mpr wp_cons ?_ | refine Eq.mpr wp_d ?_ | refine Eq.mpr wp_ret ?_ | refine Eq.mpr wp_valA ?_ | refine Eq.mpr wp_bd ?_ | refine Eq.mpr wp_andV ?_ | refine Eq.mpr wp_orV ?_ | refine Eq.mpr wp_notV ?_ | refine Eq.mpr wp_notZ ?_ | refine Eq.mpr wp_andZ ?_ | refine Eq.mpr wp_orZ ?_ | refine Eq.mpr wp_lst ?_ | refine Eq.mpr wp_tup ?_ | refine Eq.mpr wp_drop ?_ | refine Eq.mpr wp_bl ?_ | refine Eq.mpr wp_ch ?_ | refine Eq.mpr wp_slLh ?_ | refine Eq.mpr wp_up ?_ | refine Eq.mpr wp_join ?_ | refine Eq.mpr wp_comp ?_ | refine Eq.mpr wp_vw ?_ | refine Eq.mpr wp_opt ?_ | refine z_rd (by with_unfolding_all rfl) ?_ | refine z_pk (by with_unfolding_all rfl) ?_ | refine z_mv (by with_unfolding_all rfl) (by simp only [restG, wipeG, List.set_cons_zero, List.set_cons_succ, List.getElem?_cons_zero, List.getElem?_cons_succ, Option.getD_some]; with_unfolding_all rfl) ?_ | refine z_fz (by with_unfolding_all rfl) ?_ | refine z_fzL (by with_unfolding_all rfl) (by with_unfolding_all rfl) (by simp only [restG, wipeG, List.set_cons_zero, List.set_cons_succ, List.getElem?_cons_zero, List.getElem?_cons_succ, Option.getD_some]; with_unfolding_all rfl) ?_ | refine z_set (by simp only [restG, wipeG, List.set_cons_zero, List.set_cons_succ, List.getElem?_cons_zero, List.getElem?_cons_succ, Option.getD_some]; with_unfolding_all rfl) ?_ | refine z_sl (by with_unfolding_all rfl) ?_ | refine z_addI ?_ | refine z_subI ?_ | refine z_mulI (by first | exact mulC_l | exact mulC_r) ?_ | refine z_divI (by omega) (by omega) ?_ | refine z_modI (by omega) ?_ | refine z_powI (by with_unfolding_all rfl) ?_ | refine z_negI ?_ | refine z_ltI ?_ | refine z_leI ?_ | refine z_gtI ?_ | refine z_geI ?_ | refine z_maxI ?_ | refine z_minI ?_ | refine z_eqI ?_ | refine z_eqB ?_ | refine Eq.mpr wp_isi ?_ | refine z_neI ?_ | refine z_eqS ?_ | refine z_neS ?_ | refine z_lenG ?_ | refine z_lenGT ?_ | refine z_lenL ?_ | refine z_lenT ?_ | refine z_lenO ?_ | refine z_lenS (by omega) ?_ | refine z_slHi (by omega) ?_ | refine z_slLo (by omega) ?_ | refine z_slB (by omega) ?_ | refine z_addS (by with_unfolding_all ((try simp only [len_app]); omega)) ?_ | refine z_itL ?_ | refine z_itT ?_ | refine z_itS ?_ | refine z_itgL ?_ | refine z_itgT ?_ | refine z_call ?_ | refine z_cw (by with_unfolding_all rfl) (by simp only [List.map_nil, List.append_nil]; rfl) ?_ | refine z_back (by with_unfolding_all rfl) (by simp only [giveA, List.length_cons, List.length_nil, List.take_succ_cons, List.take_zero, List.getElem?_cons_zero, List.getElem?_cons_succ, List.set_cons_zero, List.set_cons_succ]; with_unfolding_all rfl) ?_ | refine z_fin (by with_unfolding_all rfl) ?_)
      exact ⟨rfl, _, rfl⟩
    · repeat (with_reducible first | refine z_lenOk (by with_unfolding_all rfl) ?_ | refine Eq.mpr optW_some ?_ | refine Eq.mpr fw_ok ?_ | refine Eq.mpr wp_seq ?_ | refine Eq.mpr wp_asg ?_ | refine Eq.mpr wp_retM ?_ | refine Eq.mpr wp_if ?_ | refine Eq.mpr wp_tst ?_ | refine Eq.mpr wp_op ?_ | refine Eq.mpr wp_cons ?_ | refine Eq.mpr wp_d ?_ | refine Eq.mpr wp_ret ?_ | refine Eq.mpr wp_valA ?_ | refine Eq.mpr wp_bd ?_ | refine Eq.mpr wp_andV ?_ | refine Eq.mpr wp_orV ?_ | refine Eq.mpr wp_notV ?_ | refine Eq.mpr wp_notZ ?_ | refine Eq.mpr wp_andZ ?_ | refine Eq.mpr wp_orZ ?_ | refine Eq.mpr wp_lst ?_ | refine Eq.mpr wp_tup ?_ | refine Eq.mpr wp_drop ?_ | refine Eq.mpr wp_bl ?_ | refine Eq.mpr wp_ch ?_ | refine Eq.mpr wp_slLh ?_ | refine Eq.mpr wp_up ?_ | refine Eq.mpr wp_join ?_ | refine Eq.mpr wp_comp ?_ | refine Eq.mpr wp_vw ?_ | refine Eq.mpr wp_opt ?_ | refine z_rd (by with_unfolding_all rfl) ?_ | refine z_pk (by with_unfolding_all rfl) ?_ | refine z_mv (by with_unfolding_all rfl) (by simp only [restG, wipeG, List.set_cons_zero, List.set_cons_succ, List.getElem?_cons_zero, List.getElem?_cons_succ, Option.getD_some]; with_unfolding_all rfl) ?_ | refine z_fz (by with_unfolding_all rfl) ?_ | refine z_fzL (by with_unfolding_all rfl) (by with_unfolding_all rfl) (by simp only [restG, wipeG, List.set_cons_zero, List.set_cons_succ, List.getElem?_cons_zero, List.getElem?_cons_succ, Option.getD_some]; with_unfolding_all rfl) ?_ | refine z_set (by simp only [restG, wipeG, List.set_cons_zero, List.set_cons_succ, List.getElem?_cons_zero, List.getElem?_cons_succ, Option.getD_some]; with_unfolding_all rfl) ?_ | refine z_sl (by with_unfolding_all rfl) ?_ | refine z_addI ?_ | refine z_subI ?_ | refine z_mulI (by first | exact mulC_l | exact mulC_r) ?_ | refine z_divI (by omega) (by omega) ?_ | refine z_modI (by omega) ?_ | refine z_powI (by with_unfolding_all rfl) ?_ | refine z_negI ?_ | refine z_ltI ?_ | refine z_leI ?_ | refine z_gtI ?_ | refine z_geI ?_ | refine z_maxI ?_ | refine z_minI ?_ | refine z_eqI ?_ | refine z_eqB ?_ | refine Eq.mpr wp_isi ?_ | refine z_neI ?_ | refine z_eqS ?_ | refine z_neS ?_ | refine z_lenG ?_ | refine z_lenGT ?_ | refine z_lenL ?_ | refine z_lenT ?_ | refine z_lenO ?_ | refine z_lenS (by omega) ?_ | refine z_slHi (by omega) ?_ | refine z_slLo (by omega) ?_ | refine z_slB (by omega) ?_ | refine z_addS (by with_unfolding_all ((try simp only [len_app]); omega)) ?_ | refine z_itL ?_ | refine z_itT ?_ | refine z_itS ?_ | refine z_itgL ?_ | refine z_itgT ?_ | refine z_call ?_ | refine z_cw (by with_unfolding_all rfl) (by simp only [List.map_nil, List.append_nil]; rfl) ?_ | refine z_back (by with_unfolding_all rfl) (by simp only [giveA, List.length_cons, List.length_nil, List.take_succ_cons, List.take_zero, List.getElem?_cons_zero, List.getElem?_cons_succ, List.set_cons_zero, List.set_cons_succ]; with_unfolding_all rfl) ?_ | refine z_fin (by with_unfolding_all rfl) ?_)
      refine z_ite (fun h2 => ?_) (fun h2 => ?_)
      · have h3 := of_decide_eq_true h2
        repeat (with_reducible first | refine z_lenOk (by with_unfolding_all rfl) ?_ | refine Eq.mpr optW_some ?_ | refine Eq.mpr fw_ok ?_ | refine Eq.mpr wp_seq ?_ | refine Eq.mpr wp_asg ?_ | refine Eq.mpr wp_retM ?_ | refine Eq.mpr wp_if ?_ | refine Eq.mpr wp_tst ?_ | refine Eq.mpr wp_op ?_ | refine Eq.mpr wp_cons ?_ | refine Eq.mpr wp_d ?_ | refine Eq.mpr wp_ret ?_ | refine Eq.mpr wp_valA ?_ | refine Eq.mpr wp_bd ?_ | refine Eq.mpr wp_andV ?_ | refine Eq.mpr wp_orV ?_ | refine Eq.mpr wp_notV ?_ | refine Eq.mpr wp_notZ ?_ | refine Eq.mpr wp_andZ ?_ | refine Eq.mpr wp_orZ ?_ | refine Eq.mpr wp_lst ?_ | refine Eq.mpr wp_tup ?_ | refine Eq.mpr wp_drop ?_ | refine Eq.mpr wp_bl ?_ | refine Eq.mpr wp_ch ?_ | refine Eq.mpr wp_slLh ?_ | refine Eq.mpr wp_up ?_ | refine Eq.mpr wp_join ?_ | refine Eq.mpr wp_comp ?_ | refine Eq.mpr wp_vw ?_ | refine Eq.mpr wp_opt ?_ | refine z_rd (by with_unfolding_all rfl) ?_ | refine z_pk (by with_unfolding_all rfl) ?_ | refine z_mv (by with_unfolding_all rfl) (by simp only [restG, wipeG, List.set_cons_zero, List.set_cons_succ, List.getElem?_cons_zero, List.getElem?_cons_succ, Option.getD_some]; with_unfolding_all rfl) ?_ | refine z_fz (by with_unfolding_all rfl) ?_ | refine z_fzL (by with_unfolding_all rfl) (by with_unfolding_all rfl) (by simp only [restG, wipeG, List.set_cons_zero, List.set_cons_succ, List.getElem?_cons_zero, List.getElem?_cons_succ, Option.getD_some]; with_unfolding_all rfl) ?_ | refine z_set (by simp only [restG, wipeG, List.set_cons_zero, List.set_cons_succ, List.getElem?_cons_zero, List.getElem?_cons_succ, Option.getD_some]; with_unfolding_all rfl) ?_ | refine z_sl (by with_unfolding_all rfl) ?_ | refine z_addI ?_ | refine z_subI ?_ | refine z_mulI (by first | exact mulC_l | exact mulC_r) ?_ | refine z_divI (by omega) (by omega) ?_ | refine z_modI (by omega) ?_ | refine z_powI (by with_unfolding_all rfl) ?_ | refine z_negI ?_ | refine z_ltI ?_ | refine z_leI ?_ | refine z_gtI ?_ | refine z_geI ?_ | refine z_maxI ?_ | refine z_minI ?_ | refine z_eqI ?_ | refine z_eqB ?_ | refine Eq.mpr wp_isi ?_ | refine z_neI ?_ | refine z_eqS ?_ | refine z_neS ?_ | refine z_lenG ?_ | refine z_lenGT ?_ | refine z_lenL ?_ | refine z_lenT ?_ | refine z_lenO ?_ | refine z_lenS (by omega) ?_ | refine z_slHi (by omega) ?_ | refine z_slLo (by omega) ?_ | refine z_slB (by omega) ?_ | refine z_addS (by with_unfolding_all ((try simp only [len_app]); omega)) ?_ | refine z_itL ?_ | refine z_itT ?_ | refine z_itS ?_ | refine z_itgL ?_ | refine z_itgT ?_ | refine z_call ?_ | refine z_cw (by with_unfolding_all rfl) (by simp only [List.map_nil, List.append_nil]; rfl) ?_ | refine z_back (by with_unfolding_all rfl) (by simp only [giveA, List.length_cons, List.length_nil, List.take_succ_cons, List.take_zero, List.getElem?_cons_zero, List.getElem?_cons_succ, List.set_cons_zero, List.set_cons_succ]; with_unfolding_all rfl) ?_ | refine z_fin (by with_unfolding_all rfl) ?_)
        refine optW_ix asLT_gL (Int.emod_nonneg _ (by omega)) (Int.emod_lt_of_pos _ h3) fun x hx => ?_
        obtain ⟨n, _, rfl⟩ := List.mem_map.mp hx
        repeat (with_reducible first | refine z_lenOk (by with_unfolding_all rfl) ?_ | refine Eq.mpr optW_some ?_ | refine Eq.mpr fw_ok ?_ | refine Eq.mpr wp_seq ?_ | refine Eq.mpr wp_asg ?_ | refine Eq.mpr wp_retM ?_ | refine Eq.mpr wp_if ?_ | refine Eq.mpr wp_tst ?_ | refine Eq.mpr wp_op ?_ | refine Eq.mpr wp_cons ?_ | refine Eq.mpr wp_d ?_ | refine Eq.mpr wp_ret ?_ | refine Eq.mpr wp_valA ?_ | refine Eq.mpr wp_bd ?_ | refine Eq.mpr wp_andV ?_ | refine Eq.mpr wp_orV ?_ | refine Eq.mpr wp_notV ?_ | refine Eq.mpr wp_notZ ?_ | refine Eq.mpr wp_andZ ?_ | refine Eq.mpr wp_orZ ?_ | refine Eq.mpr wp_lst ?_ | refine Eq.mpr wp_tup ?_ | refine Eq.mpr wp_drop ?_ | refine Eq.mpr wp_bl ?_ | refine Eq.mpr wp_ch ?_ | refine Eq.mpr wp_slLh ?_ | refine Eq.mpr wp_up ?_ | refine Eq.mpr wp_join ?_ | refine Eq.mpr wp_comp ?_ | refine Eq.mpr wp_vw ?_ | refine Eq.mpr wp_opt ?_ | refine z_rd (by with_unfolding_all rfl) ?_ | refine z_pk (by with_unfolding_all rfl) ?_ | refine z_mv (by with_unfolding_all rfl) (by simp only [restG, wipeG, List.set_cons_zero, List.set_cons_succ, List.getElem?_cons_zero, List.getElem?_cons_succ, Option.getD_some]; with_unfolding_all rfl) ?_ | refine z_fz (by with_unfolding_all rfl) ?_ | refine z_fzL (by with_unfolding_all rfl) (by with_unfolding_all rfl) (by simp only [restG, wipeG, List.set_cons_zero, List.set_cons_succ, List.getElem?_cons_zero, List.getElem?_cons_succ, Option.getD_some]; with_unfolding_all rfl) ?_ | refine z_set (by simp only [restG, wipeG, List.set_cons_zero, List.set_cons_succ, List.getElem?_cons_zero, List.getElem?_cons_succ, Option.getD_some]; with_unfolding_all rfl) ?_ | refine z_sl (by with_unfolding_all rfl) ?_ | refine z_addI ?_ | refine z_subI ?_ | refine z_mulI (by first | exact mulC_l | exact mulC_r) ?_ | refine z_divI (by omega) (by omega) ?_ | refine z_modI (by omega) ?_ | refine z_powI (by with_unfolding_all rfl) ?_ | refine z_negI ?_ | refine z_ltI ?_ | refine z_leI ?_ | refine z_gtI ?_ | refine z_geI ?_ | refine z_maxI ?_ | refine z_minI ?_ | refine z_eqI ?_ | refine z_eqB ?_ | refine Eq.mpr wp_isi ?_ | refine z_neI ?_ | refine z_eqS ?_ | refine z_neS ?_ | refine z_lenG ?_ | refine z_lenGT ?_ | refine z_lenL ?_ | refine z_lenT ?_ | refine z_lenO ?_ | refine z_lenS (by omega) ?_ | refine z_slHi (by omega) ?_ | refine z_slLo (by omega) ?_ | refine z_slB (by omega) ?_ | refine z_addS (by with_unfolding_all ((try simp only [len_app]); omega)) ?_ | refine z_itL ?_ | refine z_itT ?_ | refine z_itS ?_ | refine z_itgL ?_ | refine z_itgT ?_ | refine z_call ?_ | refine z_cw (by with_unfolding_all rfl) (by simp only [List.map_nil, List.append_nil]; rfl) ?_ | refine z_back (by with_unfolding_all rfl) (by simp only [giveA, List.length_cons, List.length_nil, List.take_succ_cons, List.take_zero, List.getElem?_cons_zero, List.getElem?_cons_succ, List.set_cons_zero, List.set_cons_succ]; with_unfolding_all rfl) ?_ | refine z_fin (by with_unfolding_all rfl) ?_)
        exact ⟨rfl, _, rfl⟩
      · repeat (with_reducible first | refine z_lenOk (by with_unfolding_all rfl) ?_ | refine Eq.mpr optW_some ?_ | refine Eq.mpr fw_ok ?_ | refine Eq.mpr wp_seq ?_ | refine Eq.mpr wp_asg ?_ | refine Eq.mpr wp_retM ?_ | refine Eq.mpr wp_if ?_ | refine Eq.mpr wp_tst ?_ | refine Eq.mpr wp_op ?_ | refine Eq.mpr wp_cons ?_ | refine Eq.mpr wp_d ?_ | refine Eq.mpr wp_ret ?_ | refine Eq.mpr wp_valA ?_ | refine Eq.mpr wp_bd ?_ | refine Eq.mpr wp_andV ?_ | refine Eq.mpr wp_orV ?_ | refine Eq.mpr wp_notV ?_ | refine Eq.mpr wp_notZ ?_ | refine Eq.mpr wp_andZ ?_ | refine Eq.mpr wp_orZ ?_ | refine Eq.mpr wp_lst ?_ | refine Eq.mpr wp_tup ?_ | refine Eq.mpr wp_drop ?_ | refine Eq.mpr wp_bl ?_ | refine Eq.mpr wp_ch ?_ | refine Eq.mpr wp_slLh ?_ | refine Eq.mpr wp_up ?_ | refine Eq.mpr wp_join ?_ | refine Eq.mpr wp_comp ?_ | refine Eq.mpr wp_vw ?_ | refine Eq.mpr wp_opt ?_ | refine z_rd (by with_unfolding_all rfl) ?_ | refine z_pk (by with_unfolding_all rfl) ?_ | refine z_mv (by with_unfolding_all rfl) (by simp only [restG, wipeG, List.set_cons_zero, List.set_cons_succ, List.getElem?_cons_zero, List.getElem?_cons_succ, Option.getD_some]; with_unfolding_all rfl) ?_ | refine z_fz (by with_unfolding_all rfl) ?_ | refine z_fzL (by with_unfolding_all rfl) (by with_unfolding_all rfl) (by simp only [restG, wipeG, List.set_cons_zero, List.set_cons_succ, List.getElem?_cons_zero, List.getElem?_cons_succ, Option.getD_some]; with_unfolding_all rfl) ?_ | refine z_set (by simp only [restG, wipeG, List.set_cons_zero, List.set_cons_succ, List.getElem?_cons_zero, List.getElem?_cons_succ, Option.getD_some]; with_unfolding_all rfl) ?_ | refine z_sl (by with_unfolding_all rfl) ?_ | refine z_addI ?_ | refine z_subI ?_ | refine z_mulI (by first | exact mulC_l | exact mulC_r) ?_ | refine z_divI (by omega) (by omega) ?_ | refine z_modI (by omega) ?_ | refine z_powI (by with_unfolding_all rfl) ?_ | refine z_negI ?_ | refine z_ltI ?_ | refine z_leI ?_ | refine z_gtI ?_ | refine z_geI ?_ | refine z_maxI ?_ | refine z_minI ?_ | refine z_eqI ?_ | refine z_eqB ?_ | refine Eq.mpr wp_isi ?_ | refine z_neI ?_ | refine z_eqS ?_ | refine z_neS ?_ | refine z_lenG ?_ | refine z_lenGT ?_ | refine z_lenL ?_ | refine z_lenT ?_ | refine z_lenO ?_ | refine z_lenS (by omega) ?_ | refine z_slHi (by omega) ?_ | refine z_slLo (by omega) ?_ | refine z_slB (by omega) ?_ | refine z_addS (by with_unfolding_all ((try simp only [len_app]); omega)) ?_ | refine z_itL ?_ | refine z_itT ?_ | refine z_itS ?_ | refine z_itgL ?_ | refine z_itgT ?_ | refine z_call ?_ | refine z_cw (by with_unfolding_all rfl) (by simp only [List.map_nil, List.append_nil]; rfl) ?_ | refine z_back (by with_unfolding_all rfl) (by simp only [giveA, List.length_cons, List.length_nil, List.take_succ_cons, List.take_zero, List.getElem?_cons_zero, List.getElem?_cons_succ, List.set_cons_zero, List.set_cons_succ]; with_unfolding_all rfl) ?_ | refine z_fin (by with_unfolding_all rfl) ?_)
        exact ⟨rfl, _, rfl⟩
  · rintro fl g ⟨rfl, c, rfl⟩
    repeat (with_reducible first | refine z_lenOk (by with_unfolding_all rfl) ?_ | refine Eq.mpr optW_some ?_ | refine Eq.mpr fw_ok ?_ | refine Eq.mpr wp_seq ?_ | refine Eq.mpr wp_asg ?_ | refine Eq.mpr wp_retM ?_ | refine Eq.mpr wp_tst ?_ | refine Eq.mpr wp_op ?_ | refine Eq.mpr wp_cons ?_ | refine Eq.mpr wp_d ?_ | refine Eq.mpr wp_ret ?_ | refine Eq.mpr wp_valA ?_ | refine Eq.mpr wp_bd ?_ | refine Eq.mpr wp_andV ?_ | refine Eq.mpr wp_orV ?_ | refine Eq.mpr wp_notV ?_ | refine Eq.mpr wp_notZ ?_ | refine Eq.mpr wp_andZ ?_ | refine Eq.mpr wp_orZ ?_ | refine Eq.mpr wp_lst ?_ | refine Eq.mpr wp_tup ?_ | refine Eq.mpr wp_drop ?_ | refine Eq.mpr wp_bl ?_ | refine Eq.mpr wp_ch ?_ | refine Eq.mpr wp_slLh ?_ | refine Eq.mpr wp_up ?_ | refine Eq.mpr wp_join ?_ | refine Eq.mpr wp_comp ?_ | refine Eq.mpr wp_vw ?_ | refine Eq.mpr wp_opt ?_ | refine z_rd (by with_unfolding_all rfl) ?_ | refine z_pk (by with_unfolding_all rfl) ?_ | refine z_mv (by with_unfolding_all rfl) (by simp only [restG, wipeG, List.set_cons_zero, List.set_cons_succ, List.getElem?_cons_zero, List.getElem?_cons_succ, Option.getD_some]; with_unfolding_all rfl) ?_ | refine z_fz (by with_unfolding_all rfl) ?_ | refine z_fzL (by with_unfolding_all rfl) (by with_unfolding_all rfl) (by simp only [restG, wipeG, List.set_cons_zero, List.set_cons_succ, List.getElem?_cons_zero, List.getElem?_cons_succ, Option.getD_some]; with_unfolding_all rfl) ?_ | refine z_set (by simp only [restG, wipeG, List.set_cons_zero, List.set_cons_succ, List.getElem?_cons_zero, List.getElem?_cons_succ, Option.getD_some]; with_unfolding_all rfl) ?_ | refine z_sl (by with_unfolding_all rfl) ?_ | refine z_addI ?_ | refine z_subI ?_ | refine z_mulI (by first | exact mulC_l | exact mulC_r) ?_ | refine z_divI (by omega) (by omega) ?_ | refine z_modI (by omega) ?_ | refine z_powI (by with_unfolding_all rfl) ?_ | refine z_negI ?_ | refine z_ltI ?_ | refine z_leI ?_ | refine z_gtI ?_ | refine z_geI ?_ | refine z_maxI ?_ | refine z_minI ?_ | refine z_eqI ?_ | refine z_eqB ?_ | refine Eq.mpr wp_isi ?_ | refine z_neI ?_ | refine z_eqS ?_ | refine z_neS ?_ | refine z_lenG ?_ | refine z_lenGT ?_ | refine z_lenL ?_ | refine z_lenT ?_ | refine z_lenO ?_ | refine z_lenS (by omega) ?_ | refine z_slHi (by omega) ?_ | refine z_slLo (by omega) ?_ | refine z_slB (by omega) ?_ | refine z_addS (by with_unfolding_all ((try simp only [len_app]); omega)) ?_ | refine z_itL ?_ | refine z_itT ?_ | refine z_itS ?_ | refine z_itgL ?_ | refine z_itgT ?_ | refine z_call ?_ | refine z_cw (by with_unfolding_all rfl) (by simp only [List.map_nil, List.append_nil]; rfl) ?_ | refine z_back (by with_unfolding_all rfl) (by simp only [giveA, List.length_cons, List.length_nil, List.take_succ_cons, List.take_zero, List.getElem?_cons_zero, List.getElem?_cons_succ, List.set_cons_zero, List.set_cons_succ]; with_unfolding_all rfl) ?_ | refine z_fin (by with_unfolding_all rfl) ?_)
    refine Wp.mono (A := fun fl g => fl = Fl.next ∧ ∃ c s : Int, g = [some (.gL (ns.map PyData.int)), some (.d (.int i)), some (.d (.int c)), some (.d (.int s))]) (B := fun _ _ => False) ?_ ?_ (fun _ _ z => z.elim)
    · repeat (with_reducible first | refine z_lenOk (by with_unfolding_all rfl) ?_ | refine Eq.mpr optW_some ?_ | refine Eq.mpr fw_ok ?_ | refine Eq.mpr wp_seq ?_ | refine Eq.mpr wp_asg ?_ | refine Eq.mpr wp_retM ?_ | refine Eq.mpr wp_if ?_ | refine Eq.mpr wp_tst ?_ | refine Eq.mpr wp_op ?_ | refine Eq.mpr wp_cons ?_ | refine Eq.mpr wp_d ?_ | refine Eq.mpr wp_ret ?_ | refine Eq.mpr wp_valA ?_ | refine Eq.mpr wp_bd ?_ | refine Eq.mpr wp_andV ?_ | refine Eq.mpr wp_orV ?_ | refine Eq.mpr wp_notV ?_ | refine Eq.mpr wp_notZ ?_ | refine Eq.mpr wp_andZ ?_ | refine Eq.mpr wp_orZ ?_ | refine Eq.mpr wp_lst ?_ | refine Eq.mpr wp_tup ?_ | refine Eq.mpr wp_drop ?_ | refine Eq.mpr wp_bl ?_ | refine Eq.mpr wp_ch ?_ | refine Eq.mpr wp_slLh ?_ | refine Eq.mpr wp_up ?_ | refine Eq.mpr wp_join ?_ | refine Eq.mpr wp_comp ?_ | refine Eq.mpr wp_vw ?_ | refine Eq.mpr wp_opt ?_ | refine z_rd (by with_unfolding_all rfl) ?_ | refine z_pk (by with_unfolding_all rfl) ?_ | refine z_mv (by with_unfolding_all rfl) (by simp only [restG, wipeG, List.set_cons_zero, List.set_cons_succ, List.getElem?_cons_zero, List.getElem?_cons_succ, Option.getD_some]; with_unfolding_all rfl) ?_ | refine z_fz (by with_unfolding_all rfl) ?_ | refine z_fzL (by with_unfolding_all rfl) (by with_unfolding_all rfl) (by simp only [restG, wipeG, List.set_cons_zero, List.set_cons_succ, List.getElem?_cons_zero, List.getElem?_cons_succ, Option.getD_some]; with_unfolding_all rfl) ?_ | refine z_set (by simp only [restG, wipeG, List.set_cons_zero, List.set_cons_succ, List.getElem?_cons_zero, List.getElem?_cons_succ, Option.getD_some]; with_unfolding_all rfl) ?_ | refine z_sl (by with_unfolding_all rfl) ?_ | refine z_addI ?_ | refine z_subI ?_ | refine z_mulI (by first | exact mulC_l | exact mulC_r) ?_ | refine z_divI (by omega) (by omega) ?_ | refine z_modI (by omega) ?_ | refine z_powI (by with_unfolding_all rfl) ?_ | refine z_negI ?_ | refine z_ltI ?_ | refine z_leI ?_ | refine z_gtI ?_ | refine z_geI ?_ | refine z_maxI ?_ | refine z_minI ?_ | refine z_eqI ?_ | refine z_eqB ?_ | refine Eq.mpr wp_isi ?_ | refine z_neI ?_ | refine z_eqS ?_ | refine z_neS ?_ | refine z_lenG ?_ | refine z_lenGT ?_ | refine z_lenL ?_ | refine z_lenT ?_ | refine z_lenO ?_ | refine z_lenS (by omega) ?_ | refine z_slHi (by omega) ?_ | refine z_slLo (by omega) ?_ | refine z_slB (by omega) ?_ | refine z_addS (by with_unfolding_all ((try simp only [len_app]); omega)) ?_ | refine z_itL ?_ | refine z_itT ?_ | refine z_itS ?_ | refine z_itgL ?_ | refine z_itgT ?_ | refine z_call ?_ | refine z_cw (by with_unfolding_all rfl) (by simp only [List.map_nil, List.append_nil]; rfl) ?_ | refine z_back (by with_unfolding_all rfl) (by simp only [giveA, List.length_cons, List.length_nil, List.take_succ_cons, List.take_zero, List.getElem?_cons_zero, List.getElem?_cons_succ, List.set_cons_zero, List.set_cons_succ]; with_unfolding_all rfl) ?_ | refine z_fin (by with_unfolding_all rfl) ?_)
      refine z_ite (fun h1 => ?_) (fun h1 => ?_)
      · repeat (with_reducible first | refine z_lenOk (by with_unfolding_all rfl) ?_ | refine Eq.mpr optW_some ?_ | refine Eq.mpr fw_ok ?_ | refine Eq.mpr wp_seq ?_ | refine Eq.mpr wp_asg ?_ | refine Eq.mpr wp_retM ?_ | refine Eq.mpr wp_if ?_ | refine Eq.mpr wp_tst ?_ | refine Eq.mpr wp_op ?_ | refine Eq.mpr wp_cons ?_ | refine Eq.mpr wp_d ?_ | refine Eq.mpr wp_ret ?_ | refine Eq.mpr wp_valA ?_ | refine Eq.mpr wp_bd ?_ | refine Eq.mpr wp_andV ?_ | refine Eq.mpr wp_orV ?_ | refine Eq.mpr wp_notV ?_ | refine Eq.mpr wp_notZ ?_ | refine Eq.mpr wp_andZ ?_ | refine Eq.mpr wp_orZ ?_ | refine Eq.mpr wp_lst ?_ | refine Eq.mpr wp_tup ?_ | refine Eq.mpr wp_drop ?_ | refine Eq.mpr wp_bl ?_ | refine Eq.mpr wp_ch ?_ | refine Eq.mpr wp_slLh ?_ | refine Eq.mpr wp_up ?_ | refine Eq.mpr wp_join ?_ | refine Eq.mpr wp_comp ?_ | refine Eq.mpr wp_vw ?_ | refine Eq.mpr wp_opt ?_ | refine z_rd (by with_unfolding_all rfl) ?_ | refine z_pk (by with_unfolding_all rfl) ?_ | refine z_mv (by with_unfolding_all rfl) (by simp only [restG, wipeG, List.set_cons_zero, List.set_cons_succ, List.getElem?_cons_zero, List.getElem?_cons_succ, Option.getD_some]; with_unfolding_all rfl) ?_ | refine z_fz (by with_unfolding_all rfl) ?_ | refine z_fzL (by with_unfolding_all rfl) (by with_unfolding_all rfl) (by simp only [restG, wipeG, List.set_cons_zero, List.set_cons_succ, List.getElem?_cons_zero, List.getElem?_cons_succ, Option.getD_some]; with_unfolding_all rfl) ?_ | refine z_set (by simp only [restG, wipeG, List.set_cons_zero, List.set_cons_succ, List.getElem?_cons_zero, List.getElem?_cons_succ, Option.getD_some]; with_unfolding_all rfl) ?_ | refine z_sl (by with_unfolding_all rfl) ?_ | refine z_addI ?_ | refine z_subI ?_ | refine z_mulI (by first | exact mulC_l | exact mulC_r) ?_ | refine z_divI (by omega) (by omega) ?_ | refine z_modI (by omega) ?_ | refine z_powI (by with_unfolding_all rfl) ?_ | refine z_negI ?_ | refine z_ltI ?_ | refine z_leI ?_ | refine z_gtI ?_ | refine z_geI ?_ | refine z_maxI ?_ | refine z_minI ?_ | refine z_eqI ?_ | refine z_eqB ?_ | refine Eq.mpr wp_isi ?_ | refine z_neI ?_ | refine z_eqS ?_ | refine z_neS ?_ | refine z_lenG ?_ | refine z_lenGT ?_ | refine z_lenL ?_ | refine z_lenT ?_ | refine z_lenO ?_ | refine z_lenS (by omega) ?_ | refine z_slHi (by omega) ?_ | refine z_slLo (by omega) ?_ | refine z_slB (by omega) ?_ | refine z_addS (by with_unfolding_all ((try simp only [len_app]); omega)) ?_ | refine z_itL ?_ | refine z_itT ?_ | refine z_itS ?_ | refine z_itgL ?_ | refine z_itgT ?_ | refine z_call ?_ | refine z_cw (by with_unfolding_all rfl) (by simp only [List.map_nil, List.append_nil]; rfl) ?_ | refine z_back (by with_unfolding_all rfl) (by simp only [giveA, List.length_cons, List.length_nil, List.take_succ_cons, List.take_zero, List.getElem?_cons_zero, List.getElem?_cons_succ, List.set_cons_zero, List.set_cons_succ]; with_unfolding_all rfl) ?_ | refine z_fin (by with_unfolding_all rfl) ?_)
        exact ⟨rfl, _, _, rfl⟩
      · repeat (with_reducible first | refine z_lenOk (by with_unfolding_all rfl) ?_ | refine Eq.mpr optW_some ?_ | refine Eq.mpr fw_ok ?_ | refine Eq.mpr wp_seq ?_ | refine Eq.mpr wp_asg ?_ | refine Eq.mpr wp_retM ?_ | refine Eq.mpr wp_if ?_ | refine Eq.mpr wp_tst ?_ | refine Eq.mpr wp_op ?_ | refine Eq.mpr wp_cons ?_ | refine Eq.mpr wp_d ?_ | refine Eq.mpr wp_ret ?_ | refine Eq.mpr wp_valA ?_ | refine Eq.mpr wp_bd ?_ | refine Eq.mpr wp_andV ?_ | refine Eq.mpr wp_orV ?_ | refine Eq.mpr wp_notV ?_ | refine Eq.mpr wp_notZ ?_ | refine Eq.mpr wp_andZ ?_ | refine Eq.mpr wp_orZ ?_ | refine Eq.mpr wp_lst ?_ | refine Eq.mpr wp_tup ?_ | refine Eq.mpr wp_drop ?_ | refine Eq.mpr wp_bl ?_ | refine Eq.mpr wp_ch ?_ | refine Eq.mpr wp_slLh ?_ | refine Eq.mpr wp_up ?_ | refine Eq.mpr wp_join ?_ | refine Eq.mpr wp_comp ?_ | refine Eq.mpr wp_vw ?_ | refine Eq.mpr wp_opt ?_ | refine z_rd (by with_unfolding_all rfl) ?_ | refine z_pk (by with_unfolding_all rfl) ?_ | refine z_mv (by with_unfolding_all rfl) (by simp only [restG, wipeG, List.set_cons_zero, List.set_cons_succ, List.getElem?_cons_zero, List.getElem?_cons_succ, Option.getD_some]; with_unfolding_all rfl) ?_ | refine z_fz (by with_unfolding_all rfl) ?_ | refine z_fzL (by with_unfolding_all rfl) (by with_unfolding_all rfl) (by simp only [restG, wipeG, List.set_cons_zero, List.set_cons_succ, List.getElem?_cons_zero, List.getElem?_cons_succ, Option.getD_some]; with_unfolding_all rfl) ?_ | refine z_set (by simp only [restG, wipeG, List.set_cons_zero, List.set_cons_succ, List.getElem?_cons_zero, List.getElem?_cons_succ, Option.getD_some]; with_unfolding_all rfl) ?_ | refine z_sl (by with_unfolding_all rfl) ?_ | refine z_addI ?_ | refine z_subI ?_ | refine z_mulI (by first | exact mulC_l | exact mulC_r) ?_ | refine z_divI (by omega) (by omega) ?_ | refine z_modI (by omega) ?_ | refine z_powI (by with_unfolding_all rfl) ?_ | refine z_negI ?_ | refine z_ltI ?_ | refine z_leI ?_ | refine z_gtI ?_ | refine z_geI ?_ | refine z_maxI ?_ | refine z_minI ?_ | refine z_eqI ?_ | refine z_eqB ?_ | refine Eq.mpr wp_isi ?_ | refine z_neI ?_ | refine z_eqS ?_ | refine z_neS ?_ | refine z_lenG ?_ | refine z_lenGT ?_ | refine z_lenL ?_ | refine z_lenT ?_ | refine z_lenO ?_ | refine z_lenS (by omega) ?_ | refine z_slHi (by omega) ?_ | refine z_slLo (by omega) ?_ | refine z_slB (by omega) ?_ | refine z_addS (by with_unfolding_all ((try simp only [len_app]); omega)) ?_ | refine z_itL ?_ | refine z_itT ?_ | refine z_itS ?_ | refine z_itgL ?_ | refine z_itgT ?_ | refine z_call ?_ | refine z_cw (by with_unfolding_all rfl) (by simp only [List.map_nil, List.append_nil]; rfl) ?_ | refine z_back (by with_unfolding_all rfl) (by simp only [giveA, List.length_cons, List.length_nil, List.take_succ_cons, List.take_zero, List.getElem?_cons_zero, List.getElem?_cons_succ, List.set_cons_zero, List.set_cons_succ]; with_unfolding_all rfl) ?_ | refine z_fin (by with_unfolding_all rfl) ?_)
        exact ⟨rfl, _, _, rfl⟩
    · rintro fl g ⟨rfl, c, s, rfl⟩
      repeat (with_reducible first | refine z_lenOk (by with_unfolding_all rfl) ?_ | refine Eq.mpr optW_some ?_ | refine Eq.mpr fw_ok ?_ | refine Eq.mpr wp_seq ?_ | refine Eq.mpr wp_asg ?_ | refine Eq.mpr wp_retM ?_ | refine Eq.mpr wp_if ?_ | refine Eq.mpr wp_tst ?_ | refine Eq.mpr wp_op ?_ | refine Eq.mpr wp_cons ?_ | refine Eq.mpr wp_d ?_ | refine Eq.mpr wp_ret ?_ | refine Eq.mpr wp_valA ?_ | refine Eq.mpr wp_bd ?_ | refine Eq.mpr wp_andV ?_ | refine Eq.mpr wp_orV ?_ | refine Eq.mpr wp_notV ?_ | refine Eq.mpr wp_notZ ?_ | refine Eq.mpr wp_andZ ?_ | refine Eq.mpr wp_orZ ?_ | refine Eq.mpr wp_lst ?_ | refine Eq.mpr wp_tup ?_ | refine Eq.mpr wp_drop ?_ | refine Eq.mpr wp_bl ?_ | refine Eq.mpr wp_ch ?_ | refine Eq.mpr wp_slLh ?_ | refine Eq.mpr wp_up ?_ | refine Eq.mpr wp_join ?_ | refine Eq.mpr wp_comp ?_ | refine Eq.mpr wp_vw ?_ | refine Eq.mpr wp_opt ?_ | refine z_rd (by with_unfolding_all rfl) ?_ | refine z_pk (by with_unfolding_all rfl) ?_ | refine z_mv (by with_unfolding_all rfl) (by simp only [restG, wipeG, List.set_cons_zero, List.set_cons_succ, List.getElem?_cons_zero, List.getElem?_cons_succ, Option.getD_some]; with_unfolding_all rfl) ?_ | refine z_fz (by with_unfolding_all rfl) ?_ | refine z_fzL (by with_unfolding_all rfl) (by with_unfolding_all rfl) (by simp only [restG, wipeG, List.set_cons_zero, List.set_cons_succ, List.getElem?_cons_zero, List.getElem?_cons_succ, Option.getD_some]; with_unfolding_all rfl) ?_ | refine z_set (by simp only [restG, wipeG, List.set_cons_zero, List.set_cons_succ, List.getElem?_cons_zero, List.getElem?_cons_succ, Option.getD_some]; with_unfolding_all rfl) ?_ | refine z_sl (by with_unfolding_all rfl) ?_ | refine z_addI ?_ | refine z_subI ?_ | refine z_mulI (by first | exact mulC_l | exact mulC_r) ?_ | refine z_divI (by omega) (by omega) ?_ | refine z_modI (by omega) ?_ | refine z_powI (by with_unfolding_all rfl) ?_ | refine z_negI ?_ | refine z_ltI ?_ | refine z_leI ?_ | refine z_gtI ?_ | refine z_geI ?_ | refine z_maxI ?_ | refine z_minI ?_ | refine z_eqI ?_ | refine z_eqB ?_ | refine Eq.mpr wp_isi ?_ | refine z_neI ?_ | refine z_eqS ?_ | refine z_neS ?_ | refine z_lenG ?_ | refine z_lenGT ?_ | refine z_lenL ?_ | refine z_lenT ?_ | refine z_lenO ?_ | refine z_lenS (by omega) ?_ | refine z_slHi (by omega) ?_ | refine z_slLo (by omega) ?_ | refine z_slB (by omega) ?_ | refine z_addS (by with_unfolding_all ((try simp only [len_app]); omega)) ?_ | refine z_itL ?_ | refine z_itT ?_ | refine z_itS ?_ | refine z_itgL ?_ | refine z_itgT ?_ | refine z_call ?_ | refine z_cw (by with_unfolding_all rfl) (by simp only [List.map_nil, List.append_nil]; rfl) ?_ | refine z_back (by with_unfolding_all rfl) (by simp only [giveA, List.length_cons, List.length_nil, List.take_succ_cons, List.take_zero, List.getElem?_cons_zero, List.getElem?_cons_succ, List.set_cons_zero, List.set_cons_succ]; with_unfolding_all rfl) ?_ | refine z_fin (by with_unfolding_all rfl) ?_)
      exact k _ _
theorem law_true : ∀ ns : List Int, ns.length ≤ 63 → Z.trueF f_law ns := by
  intro ns hn
  have main : FW (f_law [.gL (ns.map PyData.int)]) (fun r ps => r = .d (.bool true) ∧ ps.length = 1) (fun _ => False) := by
    refine z_run rfl rfl (by simp only [List.map_cons, List.map_nil, List.cons_append, List.nil_append, Nat.reduceSub, List.replicate_succ, List.replicate_zero]; rfl) ?_
    unfold g_law
    repeat (with_reducible first | refine z_lenOk (by with_unfolding_all rfl) ?_ | refine Eq.mpr optW_some ?_ | refine Eq.mpr fw_ok ?_ | refine Eq.mpr wp_seq ?_ | refine Eq.mpr wp_asg ?_ | refine Eq.mpr wp_retM ?_ | refine Eq.mpr wp_if ?_ | refine Eq.mpr wp_tst ?_ | refine Eq.mpr wp_op ?_ | refine Eq.mpr wp_cons ?_ | refine Eq.mpr wp_d ?_ | refine Eq.mpr wp_ret ?_ | refine Eq.mpr wp_valA ?_ | refine Eq.mpr wp_bd ?_ | refine Eq.mpr wp_andV ?_ | refine Eq.mpr wp_orV ?_ | refine Eq.mpr wp_notV ?_ | refine Eq.mpr wp_notZ ?_ | refine Eq.mpr wp_andZ ?_ | refine Eq.mpr wp_orZ ?_ | refine Eq.mpr wp_lst ?_ | refine Eq.mpr wp_tup ?_ | refine Eq.mpr wp_drop ?_ | refine Eq.mpr wp_bl ?_ | refine Eq.mpr wp_ch ?_ | refine Eq.mpr wp_slLh ?_ | refine Eq.mpr wp_up ?_ | refine Eq.mpr wp_join ?_ | refine Eq.mpr wp_comp ?_ | refine Eq.mpr wp_vw ?_ | refine Eq.mpr wp_opt ?_ | refine z_rd (by with_unfolding_all rfl) ?_ | refine z_pk (by with_unfolding_all rfl) ?_ | refine z_mv (by with_unfolding_all rfl) (by simp only [restG, wipeG, List.set_cons_zero, List.set_cons_succ, List.getElem?_cons_zero, List.getElem?_cons_succ, Option.getD_some]; with_unfolding_all rfl) ?_ | refine z_fz (by with_unfolding_all rfl) ?_ | refine z_fzL (by with_unfolding_all rfl) (by with_unfolding_all rfl) (by simp only [restG, wipeG, List.set_cons_zero, List.set_cons_succ, List.getElem?_cons_zero, List.getElem?_cons_succ, Option.getD_some]; with_unfolding_all rfl) ?_ | refine z_set (by simp only [restG, wipeG, List.set_cons_zero, List.set_cons_succ, List.getElem?_cons_zero, List.getElem?_cons_succ, Option.getD_some]; with_unfolding_all rfl) ?_ | refine z_sl (by with_unfolding_all rfl) ?_ | refine z_addI ?_ | refine z_subI ?_ | refine z_mulI (by first | exact mulC_l | exact mulC_r) ?_ | refine z_divI (by omega) (by omega) ?_ | refine z_modI (by omega) ?_ | refine z_powI (by with_unfolding_all rfl) ?_ | refine z_negI ?_ | refine z_ltI ?_ | refine z_leI ?_ | refine z_gtI ?_ | refine z_geI ?_ | refine z_maxI ?_ | refine z_minI ?_ | refine z_eqI ?_ | refine z_eqB ?_ | refine Eq.mpr wp_isi ?_ | refine z_neI ?_ | refine z_eqS ?_ | refine z_neS ?_ | refine z_lenG ?_ | refine z_lenGT ?_ | refine z_lenL ?_ | refine z_lenT ?_ | refine z_lenO ?_ | refine z_lenS (by omega) ?_ | refine z_slHi (by omega) ?_ | refine z_slLo (by omega) ?_ | refine z_slB (by omega) ?_ | refine z_addS (by with_unfolding_all ((try simp only [len_app]); omega)) ?_ | refine z_itL ?_ | refine z_itT ?_ | refine z_itS ?_ | refine z_itgL ?_ | refine z_itgT ?_ | refine z_call ?_ | refine z_cw (by with_unfolding_all rfl) (by simp only [List.map_nil, List.append_nil]; rfl) ?_ | refine z_back (by with_unfolding_all rfl) (by simp only [giveA, List.length_cons, List.length_nil, List.take_succ_cons, List.take_zero, List.getElem?_cons_zero, List.getElem?_cons_succ, List.set_cons_zero, List.set_cons_succ]; with_unfolding_all rfl) ?_ | refine z_fin (by with_unfolding_all rfl) ?_)
    refine z_rng1 (by omega) (by omega) ?_
    refine wp_for (fun ds g => (∀ d ∈ ds, ∃ i : Nat, d = .int i) ∧ ∃ o1 o2 o3 o4 o5, g = [some (.gL (ns.map PyData.int)), o1, o2, o3, o4, o5]) ?_ ?_ _ _ ⟨?_, _, _, _, _, _, rfl⟩
    · rintro d r g ⟨hd, o1, o2, o3, o4, o5, rfl⟩
      obtain ⟨i, rfl⟩ := hd d (by simp)
      repeat (with_reducible first | refine z_lenOk (by with_unfolding_all rfl) ?_ | refine Eq.mpr optW_some ?_ | refine Eq.mpr fw_ok ?_ | refine Eq.mpr wp_seq ?_ | refine Eq.mpr wp_asg ?_ | refine Eq.mpr wp_retM ?_ | refine Eq.mpr wp_if ?_ | refine Eq.mpr wp_tst ?_ | refine Eq.mpr wp_op ?_ | refine Eq.mpr wp_cons ?_ | refine Eq.mpr wp_d ?_ | refine Eq.mpr wp_ret ?_ | refine Eq.mpr wp_valA ?_ | refine Eq.mpr wp_bd ?_ | refine Eq.mpr wp_andV ?_ | refine Eq.mpr wp_orV ?_ | refine Eq.mpr wp_notV ?_ | refine Eq.mpr wp_notZ ?_ | refine Eq.mpr wp_andZ ?_ | refine Eq.mpr wp_orZ ?_ | refine Eq.mpr wp_lst ?_ | refine Eq.mpr wp_tup ?_ | refine Eq.mpr wp_drop ?_ | refine Eq.mpr wp_bl ?_ | refine Eq.mpr wp_ch ?_ | refine Eq.mpr wp_slLh ?_ | refine Eq.mpr wp_up ?_ | refine Eq.mpr wp_join ?_ | refine Eq.mpr wp_comp ?_ | refine Eq.mpr wp_vw ?_ | refine Eq.mpr wp_opt ?_ | refine z_rd (by with_unfolding_all rfl) ?_ | refine z_pk (by with_unfolding_all rfl) ?_ | refine z_mv (by with_unfolding_all rfl) (by simp only [restG, wipeG, List.set_cons_zero, List.set_cons_succ, List.getElem?_cons_zero, List.getElem?_cons_succ, Option.getD_some]; with_unfolding_all rfl) ?_ | refine z_fz (by with_unfolding_all rfl) ?_ | refine z_fzL (by with_unfolding_all rfl) (by with_unfolding_all rfl) (by simp only [restG, wipeG, List.set_cons_zero, List.set_cons_succ, List.getElem?_cons_zero, List.getElem?_cons_succ, Option.getD_some]; with_unfolding_all rfl) ?_ | refine z_set (by simp only [restG, wipeG, List.set_cons_zero, List.set_cons_succ, List.getElem?_cons_zero, List.getElem?_cons_succ, Option.getD_some]; with_unfolding_all rfl) ?_ | refine z_sl (by with_unfolding_all rfl) ?_ | refine z_addI ?_ | refine z_subI ?_ | refine z_mulI (by first | exact mulC_l | exact mulC_r) ?_ | refine z_divI (by omega) (by omega) ?_ | refine z_modI (by omega) ?_ | refine z_powI (by with_unfolding_all rfl) ?_ | refine z_negI ?_ | refine z_ltI ?_ | refine z_leI ?_ | refine z_gtI ?_ | refine z_geI ?_ | refine z_maxI ?_ | refine z_minI ?_ | refine z_eqI ?_ | refine z_eqB ?_ | refine Eq.mpr wp_isi ?_ | refine z_neI ?_ | refine z_eqS ?_ | refine z_neS ?_ | refine z_lenG ?_ | refine z_lenGT ?_ | refine z_lenL ?_ | refine z_lenT ?_ | refine z_lenO ?_ | refine z_lenS (by omega) ?_ | refine z_slHi (by omega) ?_ | refine z_slLo (by omega) ?_ | refine z_slB (by omega) ?_ | refine z_addS (by with_unfolding_all ((try simp only [len_app]); omega)) ?_ | refine z_itL ?_ | refine z_itT ?_ | refine z_itS ?_ | refine z_itgL ?_ | refine z_itgT ?_ | refine z_call ?_ | refine z_cw (by with_unfolding_all rfl) (by simp only [List.map_nil, List.append_nil]; rfl) ?_ | refine z_back (by with_unfolding_all rfl) (by simp only [giveA, List.length_cons, List.length_nil, List.take_succ_cons, List.take_zero, List.getElem?_cons_zero, List.getElem?_cons_succ, List.set_cons_zero, List.set_cons_succ]; with_unfolding_all rfl) ?_ | refine z_fin (by with_unfolding_all rfl) ?_)
      refine fw_box fun c s => ?_
      repeat (with_reducible first | refine z_lenOk (by with_unfolding_all rfl) ?_ | refine Eq.mpr optW_some ?_ | refine Eq.mpr fw_ok ?_ | refine Eq.mpr wp_seq ?_ | refine Eq.mpr wp_asg ?_ | refine Eq.mpr wp_retM ?_ | refine Eq.mpr wp_if ?_ | refine Eq.mpr wp_tst ?_ | refine Eq.mpr wp_op ?_ | refine Eq.mpr wp_cons ?_ | refine Eq.mpr wp_d ?_ | refine Eq.mpr wp_ret ?_ | refine Eq.mpr wp_valA ?_ | refine Eq.mpr wp_bd ?_ | refine Eq.mpr wp_andV ?_ | refine Eq.mpr wp_orV ?_ | refine Eq.mpr wp_notV ?_ | refine Eq.mpr wp_notZ ?_ | refine Eq.mpr wp_andZ ?_ | refine Eq.mpr wp_orZ ?_ | refine Eq.mpr wp_lst ?_ | refine Eq.mpr wp_tup ?_ | refine Eq.mpr wp_drop ?_ | refine Eq.mpr wp_bl ?_ | refine Eq.mpr wp_ch ?_ | refine Eq.mpr wp_slLh ?_ | refine Eq.mpr wp_up ?_ | refine Eq.mpr wp_join ?_ | refine Eq.mpr wp_comp ?_ | refine Eq.mpr wp_vw ?_ | refine Eq.mpr wp_opt ?_ | refine z_rd (by with_unfolding_all rfl) ?_ | refine z_pk (by with_unfolding_all rfl) ?_ | refine z_mv (by with_unfolding_all rfl) (by simp only [restG, wipeG, List.set_cons_zero, List.set_cons_succ, List.getElem?_cons_zero, List.getElem?_cons_succ, Option.getD_some]; with_unfolding_all rfl) ?_ | refine z_fz (by with_unfolding_all rfl) ?_ | refine z_fzL (by with_unfolding_all rfl) (by with_unfolding_all rfl) (by simp only [restG, wipeG, List.set_cons_zero, List.set_cons_succ, List.getElem?_cons_zero, List.getElem?_cons_succ, Option.getD_some]; with_unfolding_all rfl) ?_ | refine z_set (by simp only [restG, wipeG, List.set_cons_zero, List.set_cons_succ, List.getElem?_cons_zero, List.getElem?_cons_succ, Option.getD_some]; with_unfolding_all rfl) ?_ | refine z_sl (by with_unfolding_all rfl) ?_ | refine z_addI ?_ | refine z_subI ?_ | refine z_mulI (by first | exact mulC_l | exact mulC_r) ?_ | refine z_divI (by omega) (by omega) ?_ | refine z_modI (by omega) ?_ | refine z_powI (by with_unfolding_all rfl) ?_ | refine z_negI ?_ | refine z_ltI ?_ | refine z_leI ?_ | refine z_gtI ?_ | refine z_geI ?_ | refine z_maxI ?_ | refine z_minI ?_ | refine z_eqI ?_ | refine z_eqB ?_ | refine Eq.mpr wp_isi ?_ | refine z_neI ?_ | refine z_eqS ?_ | refine z_neS ?_ | refine z_lenG ?_ | refine z_lenGT ?_ | refine z_lenL ?_ | refine z_lenT ?_ | refine z_lenO ?_ | refine z_lenS (by omega) ?_ | refine z_slHi (by omega) ?_ | refine z_slLo (by omega) ?_ | refine z_slB (by omega) ?_ | refine z_addS (by with_unfolding_all ((try simp only [len_app]); omega)) ?_ | refine z_itL ?_ | refine z_itT ?_ | refine z_itS ?_ | refine z_itgL ?_ | refine z_itgT ?_ | refine z_call ?_ | refine z_cw (by with_unfolding_all rfl) (by simp only [List.map_nil, List.append_nil]; rfl) ?_ | refine z_back (by with_unfolding_all rfl) (by simp only [giveA, List.length_cons, List.length_nil, List.take_succ_cons, List.take_zero, List.getElem?_cons_zero, List.getElem?_cons_succ, List.set_cons_zero, List.set_cons_succ]; with_unfolding_all rfl) ?_ | refine z_fin (by with_unfolding_all rfl) ?_)
      refine fw_name fun z c s hz => ?_
      repeat (with_reducible first | refine z_lenOk (by with_unfolding_all rfl) ?_ | refine Eq.mpr optW_some ?_ | refine Eq.mpr fw_ok ?_ | refine Eq.mpr wp_seq ?_ | refine Eq.mpr wp_asg ?_ | refine Eq.mpr wp_retM ?_ | refine Eq.mpr wp_if ?_ | refine Eq.mpr wp_tst ?_ | refine Eq.mpr wp_op ?_ | refine Eq.mpr wp_cons ?_ | refine Eq.mpr wp_d ?_ | refine Eq.mpr wp_ret ?_ | refine Eq.mpr wp_valA ?_ | refine Eq.mpr wp_bd ?_ | refine Eq.mpr wp_andV ?_ | refine Eq.mpr wp_orV ?_ | refine Eq.mpr wp_notV ?_ | refine Eq.mpr wp_notZ ?_ | refine Eq.mpr wp_andZ ?_ | refine Eq.mpr wp_orZ ?_ | refine Eq.mpr wp_lst ?_ | refine Eq.mpr wp_tup ?_ | refine Eq.mpr wp_drop ?_ | refine Eq.mpr wp_bl ?_ | refine Eq.mpr wp_ch ?_ | refine Eq.mpr wp_slLh ?_ | refine Eq.mpr wp_up ?_ | refine Eq.mpr wp_join ?_ | refine Eq.mpr wp_comp ?_ | refine Eq.mpr wp_vw ?_ | refine Eq.mpr wp_opt ?_ | refine z_rd (by with_unfolding_all rfl) ?_ | refine z_pk (by with_unfolding_all rfl) ?_ | refine z_mv (by with_unfolding_all rfl) (by simp only [restG, wipeG, List.set_cons_zero, List.set_cons_succ, List.getElem?_cons_zero, List.getElem?_cons_succ, Option.getD_some]; with_unfolding_all rfl) ?_ | refine z_fz (by with_unfolding_all rfl) ?_ | refine z_fzL (by with_unfolding_all rfl) (by with_unfolding_all rfl) (by simp only [restG, wipeG, List.set_cons_zero, List.set_cons_succ, List.getElem?_cons_zero, List.getElem?_cons_succ, Option.getD_some]; with_unfolding_all rfl) ?_ | refine z_set (by simp only [restG, wipeG, List.set_cons_zero, List.set_cons_succ, List.getElem?_cons_zero, List.getElem?_cons_succ, Option.getD_some]; with_unfolding_all rfl) ?_ | refine z_sl (by with_unfolding_all rfl) ?_ | refine z_addI ?_ | refine z_subI ?_ | refine z_mulI (by first | exact mulC_l | exact mulC_r) ?_ | refine z_divI (by omega) (by omega) ?_ | refine z_modI (by omega) ?_ | refine z_powI (by with_unfolding_all rfl) ?_ | refine z_negI ?_ | refine z_ltI ?_ | refine z_leI ?_ | refine z_gtI ?_ | refine z_geI ?_ | refine z_maxI ?_ | refine z_minI ?_ | refine z_eqI ?_ | refine z_eqB ?_ | refine Eq.mpr wp_isi ?_ | refine z_neI ?_ | refine z_eqS ?_ | refine z_neS ?_ | refine z_lenG ?_ | refine z_lenGT ?_ | refine z_lenL ?_ | refine z_lenT ?_ | refine z_lenO ?_ | refine z_lenS (by omega) ?_ | refine z_slHi (by omega) ?_ | refine z_slLo (by omega) ?_ | refine z_slB (by omega) ?_ | refine z_addS (by with_unfolding_all ((try simp only [len_app]); omega)) ?_ | refine z_itL ?_ | refine z_itT ?_ | refine z_itS ?_ | refine z_itgL ?_ | refine z_itgT ?_ | refine z_call ?_ | refine z_cw (by with_unfolding_all rfl) (by simp only [List.map_nil, List.append_nil]; rfl) ?_ | refine z_back (by with_unfolding_all rfl) (by simp only [giveA, List.length_cons, List.length_nil, List.take_succ_cons, List.take_zero, List.getElem?_cons_zero, List.getElem?_cons_succ, List.set_cons_zero, List.set_cons_succ]; with_unfolding_all rfl) ?_ | refine z_fin (by with_unfolding_all rfl) ?_)
      rw [taken_eq]
      repeat (with_reducible first | refine z_lenOk (by with_unfolding_all rfl) ?_ | refine Eq.mpr optW_some ?_ | refine Eq.mpr fw_ok ?_ | refine Eq.mpr wp_seq ?_ | refine Eq.mpr wp_asg ?_ | refine Eq.mpr wp_retM ?_ | refine Eq.mpr wp_if ?_ | refine Eq.mpr wp_tst ?_ | refine Eq.mpr wp_op ?_ | refine Eq.mpr wp_cons ?_ | refine Eq.mpr wp_d ?_ | refine Eq.mpr wp_ret ?_ | refine Eq.mpr wp_valA ?_ | refine Eq.mpr wp_bd ?_ | refine Eq.mpr wp_andV ?_ | refine Eq.mpr wp_orV ?_ | refine Eq.mpr wp_notV ?_ | refine Eq.mpr wp_notZ ?_ | refine Eq.mpr wp_andZ ?_ | refine Eq.mpr wp_orZ ?_ | refine Eq.mpr wp_lst ?_ | refine Eq.mpr wp_tup ?_ | refine Eq.mpr wp_drop ?_ | refine Eq.mpr wp_bl ?_ | refine Eq.mpr wp_ch ?_ | refine Eq.mpr wp_slLh ?_ | refine Eq.mpr wp_up ?_ | refine Eq.mpr wp_join ?_ | refine Eq.mpr wp_comp ?_ | refine Eq.mpr wp_vw ?_ | refine Eq.mpr wp_opt ?_ | refine z_rd (by with_unfolding_all rfl) ?_ | refine z_pk (by with_unfolding_all rfl) ?_ | refine z_mv (by with_unfolding_all rfl) (by simp only [restG, wipeG, List.set_cons_zero, List.set_cons_succ, List.getElem?_cons_zero, List.getElem?_cons_succ, Option.getD_some]; with_unfolding_all rfl) ?_ | refine z_fz (by with_unfolding_all rfl) ?_ | refine z_fzL (by with_unfolding_all rfl) (by with_unfolding_all rfl) (by simp only [restG, wipeG, List.set_cons_zero, List.set_cons_succ, List.getElem?_cons_zero, List.getElem?_cons_succ, Option.getD_some]; with_unfolding_all rfl) ?_ | refine z_set (by simp only [restG, wipeG, List.set_cons_zero, List.set_cons_succ, List.getElem?_cons_zero, List.getElem?_cons_succ, Option.getD_some]; with_unfolding_all rfl) ?_ | refine z_sl (by with_unfolding_all rfl) ?_ | refine z_addI ?_ | refine z_subI ?_ | refine z_mulI (by first | exact mulC_l | exact mulC_r) ?_ | refine z_divI (by omega) (by omega) ?_ | refine z_modI (by omega) ?_ | refine z_powI (by with_unfolding_all rfl) ?_ | refine z_negI ?_ | refine z_ltI ?_ | refine z_leI ?_ | refine z_gtI ?_ | refine z_geI ?_ | refine z_maxI ?_ | refine z_minI ?_ | refine z_eqI ?_ | refine z_eqB ?_ | refine Eq.mpr wp_isi ?_ | refine z_neI ?_ | refine z_eqS ?_ | refine z_neS ?_ | refine z_lenG ?_ | refine z_lenGT ?_ | refine z_lenL ?_ | refine z_lenT ?_ | refine z_lenO ?_ | refine z_lenS (by omega) ?_ | refine z_slHi (by omega) ?_ | refine z_slLo (by omega) ?_ | refine z_slB (by omega) ?_ | refine z_addS (by with_unfolding_all ((try simp only [len_app]); omega)) ?_ | refine z_itL ?_ | refine z_itT ?_ | refine z_itS ?_ | refine z_itgL ?_ | refine z_itgT ?_ | refine z_call ?_ | refine z_cw (by with_unfolding_all rfl) (by simp only [List.map_nil, List.append_nil]; rfl) ?_ | refine z_back (by with_unfolding_all rfl) (by simp only [giveA, List.length_cons, List.length_nil, List.take_succ_cons, List.take_zero, List.getElem?_cons_zero, List.getElem?_cons_succ, List.set_cons_zero, List.set_cons_succ]; with_unfolding_all rfl) ?_ | refine z_fin (by with_unfolding_all rfl) ?_)
      (refine fw_tk ⟨_, _, rfl⟩ (by omega) (by omega) fun m c s h0 h1 => ?_); repeat (with_reducible first | refine z_lenOk (by with_unfolding_all rfl) ?_ | refine Eq.mpr optW_some ?_ | refine Eq.mpr fw_ok ?_ | refine Eq.mpr wp_seq ?_ | refine Eq.mpr wp_asg ?_ | refine Eq.mpr wp_retM ?_ | refine Eq.mpr wp_if ?_ | refine Eq.mpr wp_tst ?_ | refine Eq.mpr wp_op ?_ | refine Eq.mpr wp_cons ?_ | refine Eq.mpr wp_d ?_ | refine Eq.mpr wp_ret ?_ | refine Eq.mpr wp_valA ?_ | refine Eq.mpr wp_bd ?_ | refine Eq.mpr wp_andV ?_ | refine Eq.mpr wp_orV ?_ | refine Eq.mpr wp_notV ?_ | refine Eq.mpr wp_notZ ?_ | refine Eq.mpr wp_andZ ?_ | refine Eq.mpr wp_orZ ?_ | refine Eq.mpr wp_lst ?_ | refine Eq.mpr wp_tup ?_ | refine Eq.mpr wp_drop ?_ | refine Eq.mpr wp_bl ?_ | refine Eq.mpr wp_ch ?_ | refine Eq.mpr wp_slLh ?_ | refine Eq.mpr wp_up ?_ | refine Eq.mpr wp_join ?_ | refine Eq.mpr wp_comp ?_ | refine Eq.mpr wp_vw ?_ | refine Eq.mpr wp_opt ?_ | refine z_rd (by with_unfolding_all rfl) ?_ | refine z_pk (by with_unfolding_all rfl) ?_ | refine z_mv (by with_unfolding_all rfl) (by simp only [restG, wipeG, List.set_cons_zero, List.set_cons_succ, List.getElem?_cons_zero, List.getElem?_cons_succ, Option.getD_some]; with_unfolding_all rfl) ?_ | refine z_fz (by with_unfolding_all rfl) ?_ | refine z_fzL (by with_unfolding_all rfl) (by with_unfolding_all rfl) (by simp only [restG, wipeG, List.set_cons_zero, List.set_cons_succ, List.getElem?_cons_zero, List.getElem?_cons_succ, Option.getD_some]; with_unfolding_all rfl) ?_ | refine z_set (by simp only [restG, wipeG, List.set_cons_zero, List.set_cons_succ, List.getElem?_cons_zero, List.getElem?_cons_succ, Option.getD_some]; with_unfolding_all rfl) ?_ | refine z_sl (by with_unfolding_all rfl) ?_ | refine z_addI ?_ | refine z_subI ?_ | refine z_mulI (by first | exact mulC_l | exact mulC_r) ?_ | refine z_divI (by omega) (by omega) ?_ | refine z_modI (by omega) ?_ | refine z_powI (by with_unfolding_all rfl) ?_ | refine z_negI ?_ | refine z_ltI ?_ | refine z_leI ?_ | refine z_gtI ?_ | refine z_geI ?_ | refine z_maxI ?_ | refine z_minI ?_ | refine z_eqI ?_ | refine z_eqB ?_ | refine Eq.mpr wp_isi ?_ | refine z_neI ?_ | refine z_eqS ?_ | refine z_neS ?_ | refine z_lenG ?_ | refine z_lenGT ?_ | refine z_lenL ?_ | refine z_lenT ?_ | refine z_lenO ?_ | refine z_lenS (by omega) ?_ | refine z_slHi (by omega) ?_ | refine z_slLo (by omega) ?_ | refine z_slB (by omega) ?_ | refine z_addS (by with_unfolding_all ((try simp only [len_app]); omega)) ?_ | refine z_itL ?_ | refine z_itT ?_ | refine z_itS ?_ | refine z_itgL ?_ | refine z_itgT ?_ | refine z_call ?_ | refine z_cw (by with_unfolding_all rfl) (by simp only [List.map_nil, List.append_nil]; rfl) ?_ | refine z_back (by with_unfolding_all rfl) (by simp only [giveA, List.length_cons, List.length_nil, List.take_succ_cons, List.take_zero, List.getElem?_cons_zero, List.getElem?_cons_succ, List.set_cons_zero, List.set_cons_succ]; with_unfolding_all rfl) ?_ | refine z_fin (by with_unfolding_all rfl) ?_)
      refine optW_ix (asLT_d (allD_map _)) h0 h1 fun x hx => ?_
      obtain ⟨w, rfl, hw⟩ := taken_len x hx
      repeat (with_reducible first | refine z_lenOk (by with_unfolding_all rfl) ?_ | refine Eq.mpr optW_some ?_ | refine Eq.mpr fw_ok ?_ | refine Eq.mpr wp_seq ?_ | refine Eq.mpr wp_asg ?_ | refine Eq.mpr wp_retM ?_ | refine Eq.mpr wp_if ?_ | refine Eq.mpr wp_tst ?_ | refine Eq.mpr wp_op ?_ | refine Eq.mpr wp_cons ?_ | refine Eq.mpr wp_d ?_ | refine Eq.mpr wp_ret ?_ | refine Eq.mpr wp_valA ?_ | refine Eq.mpr wp_bd ?_ | refine Eq.mpr wp_andV ?_ | refine Eq.mpr wp_orV ?_ | refine Eq.mpr wp_notV ?_ | refine Eq.mpr wp_notZ ?_ | refine Eq.mpr wp_andZ ?_ | refine Eq.mpr wp_orZ ?_ | refine Eq.mpr wp_lst ?_ | refine Eq.mpr wp_tup ?_ | refine Eq.mpr wp_drop ?_ | refine Eq.mpr wp_bl ?_ | refine Eq.mpr wp_ch ?_ | refine Eq.mpr wp_slLh ?_ | refine Eq.mpr wp_up ?_ | refine Eq.mpr wp_join ?_ | refine Eq.mpr wp_comp ?_ | refine Eq.mpr wp_vw ?_ | refine Eq.mpr wp_opt ?_ | refine z_rd (by with_unfolding_all rfl) ?_ | refine z_pk (by with_unfolding_all rfl) ?_ | refine z_mv (by with_unfolding_all rfl) (by simp only [restG, wipeG, List.set_cons_zero, List.set_cons_succ, List.getElem?_cons_zero, List.getElem?_cons_succ, Option.getD_some]; with_unfolding_all rfl) ?_ | refine z_fz (by with_unfolding_all rfl) ?_ | refine z_fzL (by with_unfolding_all rfl) (by with_unfolding_all rfl) (by simp only [restG, wipeG, List.set_cons_zero, List.set_cons_succ, List.getElem?_cons_zero, List.getElem?_cons_succ, Option.getD_some]; with_unfolding_all rfl) ?_ | refine z_set (by simp only [restG, wipeG, List.set_cons_zero, List.set_cons_succ, List.getElem?_cons_zero, List.getElem?_cons_succ, Option.getD_some]; with_unfolding_all rfl) ?_ | refine z_sl (by with_unfolding_all rfl) ?_ | refine z_addI ?_ | refine z_subI ?_ | refine z_mulI (by first | exact mulC_l | exact mulC_r) ?_ | refine z_divI (by omega) (by omega) ?_ | refine z_modI (by omega) ?_ | refine z_powI (by with_unfolding_all rfl) ?_ | refine z_negI ?_ | refine z_ltI ?_ | refine z_leI ?_ | refine z_gtI ?_ | refine z_geI ?_ | refine z_maxI ?_ | refine z_minI ?_ | refine z_eqI ?_ | refine z_eqB ?_ | refine Eq.mpr wp_isi ?_ | refine z_neI ?_ | refine z_eqS ?_ | refine z_neS ?_ | refine z_lenG ?_ | refine z_lenGT ?_ | refine z_lenL ?_ | refine z_lenT ?_ | refine z_lenO ?_ | refine z_lenS (by omega) ?_ | refine z_slHi (by omega) ?_ | refine z_slLo (by omega) ?_ | refine z_slB (by omega) ?_ | refine z_addS (by with_unfolding_all ((try simp only [len_app]); omega)) ?_ | refine z_itL ?_ | refine z_itT ?_ | refine z_itS ?_ | refine z_itgL ?_ | refine z_itgT ?_ | refine z_call ?_ | refine z_cw (by with_unfolding_all rfl) (by simp only [List.map_nil, List.append_nil]; rfl) ?_ | refine z_back (by with_unfolding_all rfl) (by simp only [giveA, List.length_cons, List.length_nil, List.take_succ_cons, List.take_zero, List.getElem?_cons_zero, List.getElem?_cons_succ, List.set_cons_zero, List.set_cons_succ]; with_unfolding_all rfl) ?_ | refine z_fin (by with_unfolding_all rfl) ?_)
      (refine fw_tk ⟨_, _, rfl⟩ (by omega) (by omega) fun m c s h0 h1 => ?_); repeat (with_reducible first | refine z_lenOk (by with_unfolding_all rfl) ?_ | refine Eq.mpr optW_some ?_ | refine Eq.mpr fw_ok ?_ | refine Eq.mpr wp_seq ?_ | refine Eq.mpr wp_asg ?_ | refine Eq.mpr wp_retM ?_ | refine Eq.mpr wp_if ?_ | refine Eq.mpr wp_tst ?_ | refine Eq.mpr wp_op ?_ | refine Eq.mpr wp_cons ?_ | refine Eq.mpr wp_d ?_ | refine Eq.mpr wp_ret ?_ | refine Eq.mpr wp_valA ?_ | refine Eq.mpr wp_bd ?_ | refine Eq.mpr wp_andV ?_ | refine Eq.mpr wp_orV ?_ | refine Eq.mpr wp_notV ?_ | refine Eq.mpr wp_notZ ?_ | refine Eq.mpr wp_andZ ?_ | refine Eq.mpr wp_orZ ?_ | refine Eq.mpr wp_lst ?_ | refine Eq.mpr wp_tup ?_ | refine Eq.mpr wp_drop ?_ | refine Eq.mpr wp_bl ?_ | refine Eq.mpr wp_ch ?_ | refine Eq.mpr wp_slLh ?_ | refine Eq.mpr wp_up ?_ | refine Eq.mpr wp_join ?_ | refine Eq.mpr wp_comp ?_ | refine Eq.mpr wp_vw ?_ | refine Eq.mpr wp_opt ?_ | refine z_rd (by with_unfolding_all rfl) ?_ | refine z_pk (by with_unfolding_all rfl) ?_ | refine z_mv (by with_unfolding_all rfl) (by simp only [restG, wipeG, List.set_cons_zero, List.set_cons_succ, List.getElem?_cons_zero, List.getElem?_cons_succ, Option.getD_some]; with_unfolding_all rfl) ?_ | refine z_fz (by with_unfolding_all rfl) ?_ | refine z_fzL (by with_unfolding_all rfl) (by with_unfolding_all rfl) (by simp only [restG, wipeG, List.set_cons_zero, List.set_cons_succ, List.getElem?_cons_zero, List.getElem?_cons_succ, Option.getD_some]; with_unfolding_all rfl) ?_ | refine z_set (by simp only [restG, wipeG, List.set_cons_zero, List.set_cons_succ, List.getElem?_cons_zero, List.getElem?_cons_succ, Option.getD_some]; with_unfolding_all rfl) ?_ | refine z_sl (by with_unfolding_all rfl) ?_ | refine z_addI ?_ | refine z_subI ?_ | refine z_mulI (by first | exact mulC_l | exact mulC_r) ?_ | refine z_divI (by omega) (by omega) ?_ | refine z_modI (by omega) ?_ | refine z_powI (by with_unfolding_all rfl) ?_ | refine z_negI ?_ | refine z_ltI ?_ | refine z_leI ?_ | refine z_gtI ?_ | refine z_geI ?_ | refine z_maxI ?_ | refine z_minI ?_ | refine z_eqI ?_ | refine z_eqB ?_ | refine Eq.mpr wp_isi ?_ | refine z_neI ?_ | refine z_eqS ?_ | refine z_neS ?_ | refine z_lenG ?_ | refine z_lenGT ?_ | refine z_lenL ?_ | refine z_lenT ?_ | refine z_lenO ?_ | refine z_lenS (by omega) ?_ | refine z_slHi (by omega) ?_ | refine z_slLo (by omega) ?_ | refine z_slB (by omega) ?_ | refine z_addS (by with_unfolding_all ((try simp only [len_app]); omega)) ?_ | refine z_itL ?_ | refine z_itT ?_ | refine z_itS ?_ | refine z_itgL ?_ | refine z_itgT ?_ | refine z_call ?_ | refine z_cw (by with_unfolding_all rfl) (by simp only [List.map_nil, List.append_nil]; rfl) ?_ | refine z_back (by with_unfolding_all rfl) (by simp only [giveA, List.length_cons, List.length_nil, List.take_succ_cons, List.take_zero, List.getElem?_cons_zero, List.getElem?_cons_succ, List.set_cons_zero, List.set_cons_succ]; with_unfolding_all rfl) ?_ | refine z_fin (by with_unfolding_all rfl) ?_)
      refine optW_ix rfl h0 h1 fun x hx => ?_
      have hx' : ∃ y : Str, x = .str y ∧ y.length ≤ 7 := by
        simp only [List.mem_cons, List.not_mem_nil, or_false] at hx
        rcases hx with h | h <;> exact ⟨_, h, by omega⟩
      obtain ⟨y, rfl, hy⟩ := hx'
      repeat (with_reducible first | refine z_lenOk (by with_unfolding_all rfl) ?_ | refine Eq.mpr optW_some ?_ | refine Eq.mpr fw_ok ?_ | refine Eq.mpr wp_seq ?_ | refine Eq.mpr wp_asg ?_ | refine Eq.mpr wp_retM ?_ | refine Eq.mpr wp_if ?_ | refine Eq.mpr wp_tst ?_ | refine Eq.mpr wp_op ?_ | refine Eq.mpr wp_cons ?_ | refine Eq.mpr wp_d ?_ | refine Eq.mpr wp_ret ?_ | refine Eq.mpr wp_valA ?_ | refine Eq.mpr wp_bd ?_ | refine Eq.mpr wp_andV ?_ | refine Eq.mpr wp_orV ?_ | refine Eq.mpr wp_notV ?_ | refine Eq.mpr wp_notZ ?_ | refine Eq.mpr wp_andZ ?_ | refine Eq.mpr wp_orZ ?_ | refine Eq.mpr wp_lst ?_ | refine Eq.mpr wp_tup ?_ | refine Eq.mpr wp_drop ?_ | refine Eq.mpr wp_bl ?_ | refine Eq.mpr wp_ch ?_ | refine Eq.mpr wp_slLh ?_ | refine Eq.mpr wp_up ?_ | refine Eq.mpr wp_join ?_ | refine Eq.mpr wp_comp ?_ | refine Eq.mpr wp_vw ?_ | refine Eq.mpr wp_opt ?_ | refine z_rd (by with_unfolding_all rfl) ?_ | refine z_pk (by with_unfolding_all rfl) ?_ | refine z_mv (by with_unfolding_all rfl) (by simp only [restG, wipeG, List.set_cons_zero, List.set_cons_succ, List.getElem?_cons_zero, List.getElem?_cons_succ, Option.getD_some]; with_unfolding_all rfl) ?_ | refine z_fz (by with_unfolding_all rfl) ?_ | refine z_fzL (by with_unfolding_all rfl) (by with_unfolding_all rfl) (by simp only [restG, wipeG, List.set_cons_zero, List.set_cons_succ, List.getElem?_cons_zero, List.getElem?_cons_succ, Option.getD_some]; with_unfolding_all rfl) ?_ | refine z_set (by simp only [restG, wipeG, List.set_cons_zero, List.set_cons_succ, List.getElem?_cons_zero, List.getElem?_cons_succ, Option.getD_some]; with_unfolding_all rfl) ?_ | refine z_sl (by with_unfolding_all rfl) ?_ | refine z_addI ?_ | refine z_subI ?_ | refine z_mulI (by first | exact mulC_l | exact mulC_r) ?_ | refine z_divI (by omega) (by omega) ?_ | refine z_modI (by omega) ?_ | refine z_powI (by with_unfolding_all rfl) ?_ | refine z_negI ?_ | refine z_ltI ?_ | refine z_leI ?_ | refine z_gtI ?_ | refine z_geI ?_ | refine z_maxI ?_ | refine z_minI ?_ | refine z_eqI ?_ | refine z_eqB ?_ | refine Eq.mpr wp_isi ?_ | refine z_neI ?_ | refine z_eqS ?_ | refine z_neS ?_ | refine z_lenG ?_ | refine z_lenGT ?_ | refine z_lenL ?_ | refine z_lenT ?_ | refine z_lenO ?_ | refine z_lenS (by omega) ?_ | refine z_slHi (by omega) ?_ | refine z_slLo (by omega) ?_ | refine z_slB (by omega) ?_ | refine z_addS (by with_unfolding_all ((try simp only [len_app]); omega)) ?_ | refine z_itL ?_ | refine z_itT ?_ | refine z_itS ?_ | refine z_itgL ?_ | refine z_itgT ?_ | refine z_call ?_ | refine z_cw (by with_unfolding_all rfl) (by simp only [List.map_nil, List.append_nil]; rfl) ?_ | refine z_back (by with_unfolding_all rfl) (by simp only [giveA, List.length_cons, List.length_nil, List.take_succ_cons, List.take_zero, List.getElem?_cons_zero, List.getElem?_cons_succ, List.set_cons_zero, List.set_cons_succ]; with_unfolding_all rfl) ?_ | refine z_fin (by with_unfolding_all rfl) ?_)
      (refine fw_tk ⟨_, _, rfl⟩ (by omega) (by omega) fun m c s h0 h1 => ?_); repeat (with_reducible first | refine z_lenOk (by with_unfolding_all rfl) ?_ | refine Eq.mpr optW_some ?_ | refine Eq.mpr fw_ok ?_ | refine Eq.mpr wp_seq ?_ | refine Eq.mpr wp_asg ?_ | refine Eq.mpr wp_retM ?_ | refine Eq.mpr wp_if ?_ | refine Eq.mpr wp_tst ?_ | refine Eq.mpr wp_op ?_ | refine Eq.mpr wp_cons ?_ | refine Eq.mpr wp_d ?_ | refine Eq.mpr wp_ret ?_ | refine Eq.mpr wp_valA ?_ | refine Eq.mpr wp_bd ?_ | refine Eq.mpr wp_andV ?_ | refine Eq.mpr wp_orV ?_ | refine Eq.mpr wp_notV ?_ | refine Eq.mpr wp_notZ ?_ | refine Eq.mpr wp_andZ ?_ | refine Eq.mpr wp_orZ ?_ | refine Eq.mpr wp_lst ?_ | refine Eq.mpr wp_tup ?_ | refine Eq.mpr wp_drop ?_ | refine Eq.mpr wp_bl ?_ | refine Eq.mpr wp_ch ?_ | refine Eq.mpr wp_slLh ?_ | refine Eq.mpr wp_up ?_ | refine Eq.mpr wp_join ?_ | refine Eq.mpr wp_comp ?_ | refine Eq.mpr wp_vw ?_ | refine Eq.mpr wp_opt ?_ | refine z_rd (by with_unfolding_all rfl) ?_ | refine z_pk (by with_unfolding_all rfl) ?_ | refine z_mv (by with_unfolding_all rfl) (by simp only [restG, wipeG, List.set_cons_zero, List.set_cons_succ, List.getElem?_cons_zero, List.getElem?_cons_succ, Option.getD_some]; with_unfolding_all rfl) ?_ | refine z_fz (by with_unfolding_all rfl) ?_ | refine z_fzL (by with_unfolding_all rfl) (by with_unfolding_all rfl) (by simp only [restG, wipeG, List.set_cons_zero, List.set_cons_succ, List.getElem?_cons_zero, List.getElem?_cons_succ, Option.getD_some]; with_unfolding_all rfl) ?_ | refine z_set (by simp only [restG, wipeG, List.set_cons_zero, List.set_cons_succ, List.getElem?_cons_zero, List.getElem?_cons_succ, Option.getD_some]; with_unfolding_all rfl) ?_ | refine z_sl (by with_unfolding_all rfl) ?_ | refine z_addI ?_ | refine z_subI ?_ | refine z_mulI (by first | exact mulC_l | exact mulC_r) ?_ | refine z_divI (by omega) (by omega) ?_ | refine z_modI (by omega) ?_ | refine z_powI (by with_unfolding_all rfl) ?_ | refine z_negI ?_ | refine z_ltI ?_ | refine z_leI ?_ | refine z_gtI ?_ | refine z_geI ?_ | refine z_maxI ?_ | refine z_minI ?_ | refine z_eqI ?_ | refine z_eqB ?_ | refine Eq.mpr wp_isi ?_ | refine z_neI ?_ | refine z_eqS ?_ | refine z_neS ?_ | refine z_lenG ?_ | refine z_lenGT ?_ | refine z_lenL ?_ | refine z_lenT ?_ | refine z_lenO ?_ | refine z_lenS (by omega) ?_ | refine z_slHi (by omega) ?_ | refine z_slLo (by omega) ?_ | refine z_slB (by omega) ?_ | refine z_addS (by with_unfolding_all ((try simp only [len_app]); omega)) ?_ | refine z_itL ?_ | refine z_itT ?_ | refine z_itS ?_ | refine z_itgL ?_ | refine z_itgT ?_ | refine z_call ?_ | refine z_cw (by with_unfolding_all rfl) (by simp only [List.map_nil, List.append_nil]; rfl) ?_ | refine z_back (by with_unfolding_all rfl) (by simp only [giveA, List.length_cons, List.length_nil, List.take_succ_cons, List.take_zero, List.getElem?_cons_zero, List.getElem?_cons_succ, List.set_cons_zero, List.set_cons_succ]; with_unfolding_all rfl) ?_ | refine z_fin (by with_unfolding_all rfl) ?_)
      refine z_rng1 (by omega) (by omega) ?_
      have lm : (intsF 0 m.toNat).length ≤ 2 := by rw [len_intsF]; omega
      refine wp_for (fun ds g => ds.length ≤ 2 ∧ ∃ (c s : Int) (w : Str) (o5 : Option O), (ds.length = 2 → w.length ≤ 7) ∧ (ds.length = 1 → w.length ≤ 24) ∧ w.length ≤ 58 ∧ g = [some (.gL (ns.map PyData.int)), some (.d (.int i)), some (.lst [.d (.int c), .d (.int s)]), some (.d (.str y)), some (.d (.str w)), o5]) ?_ ?_ _ _
        ⟨lm, c, s, y, _, fun _ => hy, fun _ => by omega, by omega, rfl⟩
      · rintro d r g ⟨hl, c, s, w, o5, b1, b2, b3, rfl⟩
        simp only [List.length_cons] at hl b1 b2
        repeat (with_reducible first | refine z_lenOk (by with_unfolding_all rfl) ?_ | refine Eq.mpr optW_some ?_ | refine Eq.mpr fw_ok ?_ | refine Eq.mpr wp_seq ?_ | refine Eq.mpr wp_asg ?_ | refine Eq.mpr wp_retM ?_ | refine Eq.mpr wp_if ?_ | refine Eq.mpr wp_tst ?_ | refine Eq.mpr wp_op ?_ | refine Eq.mpr wp_cons ?_ | refine Eq.mpr wp_d ?_ | refine Eq.mpr wp_ret ?_ | refine Eq.mpr wp_valA ?_ | refine Eq.mpr wp_bd ?_ | refine Eq.mpr wp_andV ?_ | refine Eq.mpr wp_orV ?_ | refine Eq.mpr wp_notV ?_ | refine Eq.mpr wp_notZ ?_ | refine Eq.mpr wp_andZ ?_ | refine Eq.mpr wp_orZ ?_ | refine Eq.mpr wp_lst ?_ | refine Eq.mpr wp_tup ?_ | refine Eq.mpr wp_drop ?_ | refine Eq.mpr wp_bl ?_ | refine Eq.mpr wp_ch ?_ | refine Eq.mpr wp_slLh ?_ | refine Eq.mpr wp_up ?_ | refine Eq.mpr wp_join ?_ | refine Eq.mpr wp_comp ?_ | refine Eq.mpr wp_vw ?_ | refine Eq.mpr wp_opt ?_ | refine z_rd (by with_unfolding_all rfl) ?_ | refine z_pk (by with_unfolding_all rfl) ?_ | refine z_mv (by with_unfolding_all rfl) (by simp only [restG, wipeG, List.set_cons_zero, List.set_cons_succ, List.getElem?_cons_zero, List.getElem?_cons_succ, Option.getD_some]; with_unfolding_all rfl) ?_ | refine z_fz (by with_unfolding_all rfl) ?_ | refine z_fzL (by with_unfolding_all rfl) (by with_unfolding_all rfl) (by simp only [restG, wipeG, List.set_cons_zero, List.set_cons_succ, List.getElem?_cons_zero, List.getElem?_cons_succ, Option.getD_some]; with_unfolding_all rfl) ?_ | refine z_set (by simp only [restG, wipeG, List.set_cons_zero, List.set_cons_succ, List.getElem?_cons_zero, List.getElem?_cons_succ, Option.getD_some]; with_unfolding_all rfl) ?_ | refine z_sl (by with_unfolding_all rfl) ?_ | refine z_addI ?_ | refine z_subI ?_ | refine z_mulI (by first | exact mulC_l | exact mulC_r) ?_ | refine z_divI (by omega) (by omega) ?_ | refine z_modI (by omega) ?_ | refine z_powI (by with_unfolding_all rfl) ?_ | refine z_negI ?_ | refine z_ltI ?_ | refine z_leI ?_ | refine z_gtI ?_ | refine z_geI ?_ | refine z_maxI ?_ | refine z_minI ?_ | refine z_eqI ?_ | refine z_eqB ?_ | refine Eq.mpr wp_isi ?_ | refine z_neI ?_ | refine z_eqS ?_ | refine z_neS ?_ | refine z_lenG ?_ | refine z_lenGT ?_ | refine z_lenL ?_ | refine z_lenT ?_ | refine z_lenO ?_ | refine z_lenS (by omega) ?_ | refine z_slHi (by omega) ?_ | refine z_slLo (by omega) ?_ | refine z_slB (by omega) ?_ | refine z_addS (by with_unfolding_all ((try simp only [len_app]); omega)) ?_ | refine z_itL ?_ | refine z_itT ?_ | refine z_itS ?_ | refine z_itgL ?_ | refine z_itgT ?_ | refine z_call ?_ | refine z_cw (by with_unfolding_all rfl) (by simp only [List.map_nil, List.append_nil]; rfl) ?_ | refine z_back (by with_unfolding_all rfl) (by simp only [giveA, List.length_cons, List.length_nil, List.take_succ_cons, List.take_zero, List.getElem?_cons_zero, List.getElem?_cons_succ, List.set_cons_zero, List.set_cons_succ]; with_unfolding_all rfl) ?_ | refine z_fin (by with_unfolding_all rfl) ?_)
        refine fw_other (by omega) fun u c s hu => ?_
        repeat (with_reducible first | refine z_lenOk (by with_unfolding_all rfl) ?_ | refine Eq.mpr optW_some ?_ | refine Eq.mpr fw_ok ?_ | refine Eq.mpr wp_seq ?_ | refine Eq.mpr wp_asg ?_ | refine Eq.mpr wp_retM ?_ | refine Eq.mpr wp_if ?_ | refine Eq.mpr wp_tst ?_ | refine Eq.mpr wp_op ?_ | refine Eq.mpr wp_cons ?_ | refine Eq.mpr wp_d ?_ | refine Eq.mpr wp_ret ?_ | refine Eq.mpr wp_valA ?_ | refine Eq.mpr wp_bd ?_ | refine Eq.mpr wp_andV ?_ | refine Eq.mpr wp_orV ?_ | refine Eq.mpr wp_notV ?_ | refine Eq.mpr wp_notZ ?_ | refine Eq.mpr wp_andZ ?_ | refine Eq.mpr wp_orZ ?_ | refine Eq.mpr wp_lst ?_ | refine Eq.mpr wp_tup ?_ | refine Eq.mpr wp_drop ?_ | refine Eq.mpr wp_bl ?_ | refine Eq.mpr wp_ch ?_ | refine Eq.mpr wp_slLh ?_ | refine Eq.mpr wp_up ?_ | refine Eq.mpr wp_join ?_ | refine Eq.mpr wp_comp ?_ | refine Eq.mpr wp_vw ?_ | refine Eq.mpr wp_opt ?_ | refine z_rd (by with_unfolding_all rfl) ?_ | refine z_pk (by with_unfolding_all rfl) ?_ | refine z_mv (by with_unfolding_all rfl) (by simp only [restG, wipeG, List.set_cons_zero, List.set_cons_succ, List.getElem?_cons_zero, List.getElem?_cons_succ, Option.getD_some]; with_unfolding_all rfl) ?_ | refine z_fz (by with_unfolding_all rfl) ?_ | refine z_fzL (by with_unfolding_all rfl) (by with_unfolding_all rfl) (by simp only [restG, wipeG, List.set_cons_zero, List.set_cons_succ, List.getElem?_cons_zero, List.getElem?_cons_succ, Option.getD_some]; with_unfolding_all rfl) ?_ | refine z_set (by simp only [restG, wipeG, List.set_cons_zero, List.set_cons_succ, List.getElem?_cons_zero, List.getElem?_cons_succ, Option.getD_some]; with_unfolding_all rfl) ?_ | refine z_sl (by with_unfolding_all rfl) ?_ | refine z_addI ?_ | refine z_subI ?_ | refine z_mulI (by first | exact mulC_l | exact mulC_r) ?_ | refine z_divI (by omega) (by omega) ?_ | refine z_modI (by omega) ?_ | refine z_powI (by with_unfolding_all rfl) ?_ | refine z_negI ?_ | refine z_ltI ?_ | refine z_leI ?_ | refine z_gtI ?_ | refine z_geI ?_ | refine z_maxI ?_ | refine z_minI ?_ | refine z_eqI ?_ | refine z_eqB ?_ | refine Eq.mpr wp_isi ?_ | refine z_neI ?_ | refine z_eqS ?_ | refine z_neS ?_ | refine z_lenG ?_ | refine z_lenGT ?_ | refine z_lenL ?_ | refine z_lenT ?_ | refine z_lenO ?_ | refine z_lenS (by omega) ?_ | refine z_slHi (by omega) ?_ | refine z_slLo (by omega) ?_ | refine z_slB (by omega) ?_ | refine z_addS (by with_unfolding_all ((try simp only [len_app]); omega)) ?_ | refine z_itL ?_ | refine z_itT ?_ | refine z_itS ?_ | refine z_itgL ?_ | refine z_itgT ?_ | refine z_call ?_ | refine z_cw (by with_unfolding_all rfl) (by simp only [List.map_nil, List.append_nil]; rfl) ?_ | refine z_back (by with_unfolding_all rfl) (by simp only [giveA, List.length_cons, List.length_nil, List.take_succ_cons, List.take_zero, List.getElem?_cons_zero, List.getElem?_cons_succ, List.set_cons_zero, List.set_cons_succ]; with_unfolding_all rfl) ?_ | refine z_fin (by with_unfolding_all rfl) ?_)
        exact ⟨by omega, c, s, u, _, fun e => by omega, fun e => by omega, by omega, rfl⟩
      · rintro g ⟨_, c, s, w, o5, _, _, b3, rfl⟩
        have hd' : ∀ d ∈ r, ∃ i : Nat, d = .int i := fun d hm => hd d (by simp [hm])
        repeat (with_reducible first | refine z_lenOk (by with_unfolding_all rfl) ?_ | refine Eq.mpr optW_some ?_ | refine Eq.mpr fw_ok ?_ | refine Eq.mpr wp_seq ?_ | refine Eq.mpr wp_asg ?_ | refine Eq.mpr wp_retM ?_ | refine Eq.mpr wp_if ?_ | refine Eq.mpr wp_tst ?_ | refine Eq.mpr wp_op ?_ | refine Eq.mpr wp_cons ?_ | refine Eq.mpr wp_d ?_ | refine Eq.mpr wp_ret ?_ | refine Eq.mpr wp_valA ?_ | refine Eq.mpr wp_bd ?_ | refine Eq.mpr wp_andV ?_ | refine Eq.mpr wp_orV ?_ | refine Eq.mpr wp_notV ?_ | refine Eq.mpr wp_notZ ?_ | refine Eq.mpr wp_andZ ?_ | refine Eq.mpr wp_orZ ?_ | refine Eq.mpr wp_lst ?_ | refine Eq.mpr wp_tup ?_ | refine Eq.mpr wp_drop ?_ | refine Eq.mpr wp_bl ?_ | refine Eq.mpr wp_ch ?_ | refine Eq.mpr wp_slLh ?_ | refine Eq.mpr wp_up ?_ | refine Eq.mpr wp_join ?_ | refine Eq.mpr wp_comp ?_ | refine Eq.mpr wp_vw ?_ | refine Eq.mpr wp_opt ?_ | refine z_rd (by with_unfolding_all rfl) ?_ | refine z_pk (by with_unfolding_all rfl) ?_ | refine z_mv (by with_unfolding_all rfl) (by simp only [restG, wipeG, List.set_cons_zero, List.set_cons_succ, List.getElem?_cons_zero, List.getElem?_cons_succ, Option.getD_some]; with_unfolding_all rfl) ?_ | refine z_fz (by with_unfolding_all rfl) ?_ | refine z_fzL (by with_unfolding_all rfl) (by with_unfolding_all rfl) (by simp only [restG, wipeG, List.set_cons_zero, List.set_cons_succ, List.getElem?_cons_zero, List.getElem?_cons_succ, Option.getD_some]; with_unfolding_all rfl) ?_ | refine z_set (by simp only [restG, wipeG, List.set_cons_zero, List.set_cons_succ, List.getElem?_cons_zero, List.getElem?_cons_succ, Option.getD_some]; with_unfolding_all rfl) ?_ | refine z_sl (by with_unfolding_all rfl) ?_ | refine z_addI ?_ | refine z_subI ?_ | refine z_mulI (by first | exact mulC_l | exact mulC_r) ?_ | refine z_divI (by omega) (by omega) ?_ | refine z_modI (by omega) ?_ | refine z_powI (by with_unfolding_all rfl) ?_ | refine z_negI ?_ | refine z_ltI ?_ | refine z_leI ?_ | refine z_gtI ?_ | refine z_geI ?_ | refine z_maxI ?_ | refine z_minI ?_ | refine z_eqI ?_ | refine z_eqB ?_ | refine Eq.mpr wp_isi ?_ | refine z_neI ?_ | refine z_eqS ?_ | refine z_neS ?_ | refine z_lenG ?_ | refine z_lenGT ?_ | refine z_lenL ?_ | refine z_lenT ?_ | refine z_lenO ?_ | refine z_lenS (by omega) ?_ | refine z_slHi (by omega) ?_ | refine z_slLo (by omega) ?_ | refine z_slB (by omega) ?_ | refine z_addS (by with_unfolding_all ((try simp only [len_app]); omega)) ?_ | refine z_itL ?_ | refine z_itT ?_ | refine z_itS ?_ | refine z_itgL ?_ | refine z_itgT ?_ | refine z_call ?_ | refine z_cw (by with_unfolding_all rfl) (by simp only [List.map_nil, List.append_nil]; rfl) ?_ | refine z_back (by with_unfolding_all rfl) (by simp only [giveA, List.length_cons, List.length_nil, List.take_succ_cons, List.take_zero, List.getElem?_cons_zero, List.getElem?_cons_succ, List.set_cons_zero, List.set_cons_succ]; with_unfolding_all rfl) ?_ | refine z_fin (by with_unfolding_all rfl) ?_)
        refine fw_right (by omega) ?_
        repeat (with_reducible first | refine z_lenOk (by with_unfolding_all rfl) ?_ | refine Eq.mpr optW_some ?_ | refine Eq.mpr fw_ok ?_ | refine Eq.mpr wp_seq ?_ | refine Eq.mpr wp_asg ?_ | refine Eq.mpr wp_retM ?_ | refine Eq.mpr wp_if ?_ | refine Eq.mpr wp_tst ?_ | refine Eq.mpr wp_op ?_ | refine Eq.mpr wp_cons ?_ | refine Eq.mpr wp_d ?_ | refine Eq.mpr wp_ret ?_ | refine Eq.mpr wp_valA ?_ | refine Eq.mpr wp_bd ?_ | refine Eq.mpr wp_andV ?_ | refine Eq.mpr wp_orV ?_ | refine Eq.mpr wp_notV ?_ | refine Eq.mpr wp_notZ ?_ | refine Eq.mpr wp_andZ ?_ | refine Eq.mpr wp_orZ ?_ | refine Eq.mpr wp_lst ?_ | refine Eq.mpr wp_tup ?_ | refine Eq.mpr wp_drop ?_ | refine Eq.mpr wp_bl ?_ | refine Eq.mpr wp_ch ?_ | refine Eq.mpr wp_slLh ?_ | refine Eq.mpr wp_up ?_ | refine Eq.mpr wp_join ?_ | refine Eq.mpr wp_comp ?_ | refine Eq.mpr wp_vw ?_ | refine Eq.mpr wp_opt ?_ | refine z_rd (by with_unfolding_all rfl) ?_ | refine z_pk (by with_unfolding_all rfl) ?_ | refine z_mv (by with_unfolding_all rfl) (by simp only [restG, wipeG, List.set_cons_zero, List.set_cons_succ, List.getElem?_cons_zero, List.getElem?_cons_succ, Option.getD_some]; with_unfolding_all rfl) ?_ | refine z_fz (by with_unfolding_all rfl) ?_ | refine z_fzL (by with_unfolding_all rfl) (by with_unfolding_all rfl) (by simp only [restG, wipeG, List.set_cons_zero, List.set_cons_succ, List.getElem?_cons_zero, List.getElem?_cons_succ, Option.getD_some]; with_unfolding_all rfl) ?_ | refine z_set (by simp only [restG, wipeG, List.set_cons_zero, List.set_cons_succ, List.getElem?_cons_zero, List.getElem?_cons_succ, Option.getD_some]; with_unfolding_all rfl) ?_ | refine z_sl (by with_unfolding_all rfl) ?_ | refine z_addI ?_ | refine z_subI ?_ | refine z_mulI (by first | exact mulC_l | exact mulC_r) ?_ | refine z_divI (by omega) (by omega) ?_ | refine z_modI (by omega) ?_ | refine z_powI (by with_unfolding_all rfl) ?_ | refine z_negI ?_ | refine z_ltI ?_ | refine z_leI ?_ | refine z_gtI ?_ | refine z_geI ?_ | refine z_maxI ?_ | refine z_minI ?_ | refine z_eqI ?_ | refine z_eqB ?_ | refine Eq.mpr wp_isi ?_ | refine z_neI ?_ | refine z_eqS ?_ | refine z_neS ?_ | refine z_lenG ?_ | refine z_lenGT ?_ | refine z_lenL ?_ | refine z_lenT ?_ | refine z_lenO ?_ | refine z_lenS (by omega) ?_ | refine z_slHi (by omega) ?_ | refine z_slLo (by omega) ?_ | refine z_slB (by omega) ?_ | refine z_addS (by with_unfolding_all ((try simp only [len_app]); omega)) ?_ | refine z_itL ?_ | refine z_itT ?_ | refine z_itS ?_ | refine z_itgL ?_ | refine z_itgT ?_ | refine z_call ?_ | refine z_cw (by with_unfolding_all rfl) (by simp only [List.map_nil, List.append_nil]; rfl) ?_ | refine z_back (by with_unfolding_all rfl) (by simp only [giveA, List.length_cons, List.length_nil, List.take_succ_cons, List.take_zero, List.getElem?_cons_zero, List.getElem?_cons_succ, List.set_cons_zero, List.set_cons_succ]; with_unfolding_all rfl) ?_ | refine z_fin (by with_unfolding_all rfl) ?_)
        refine z_ifF (by simp) ?_
        repeat (with_reducible first | refine z_lenOk (by with_unfolding_all rfl) ?_ | refine Eq.mpr optW_some ?_ | refine Eq.mpr fw_ok ?_ | refine Eq.mpr wp_seq ?_ | refine Eq.mpr wp_asg ?_ | refine Eq.mpr wp_retM ?_ | refine Eq.mpr wp_if ?_ | refine Eq.mpr wp_tst ?_ | refine Eq.mpr wp_op ?_ | refine Eq.mpr wp_cons ?_ | refine Eq.mpr wp_d ?_ | refine Eq.mpr wp_ret ?_ | refine Eq.mpr wp_valA ?_ | refine Eq.mpr wp_bd ?_ | refine Eq.mpr wp_andV ?_ | refine Eq.mpr wp_orV ?_ | refine Eq.mpr wp_notV ?_ | refine Eq.mpr wp_notZ ?_ | refine Eq.mpr wp_andZ ?_ | refine Eq.mpr wp_orZ ?_ | refine Eq.mpr wp_lst ?_ | refine Eq.mpr wp_tup ?_ | refine Eq.mpr wp_drop ?_ | refine Eq.mpr wp_bl ?_ | refine Eq.mpr wp_ch ?_ | refine Eq.mpr wp_slLh ?_ | refine Eq.mpr wp_up ?_ | refine Eq.mpr wp_join ?_ | refine Eq.mpr wp_comp ?_ | refine Eq.mpr wp_vw ?_ | refine Eq.mpr wp_opt ?_ | refine z_rd (by with_unfolding_all rfl) ?_ | refine z_pk (by with_unfolding_all rfl) ?_ | refine z_mv (by with_unfolding_all rfl) (by simp only [restG, wipeG, List.set_cons_zero, List.set_cons_succ, List.getElem?_cons_zero, List.getElem?_cons_succ, Option.getD_some]; with_unfolding_all rfl) ?_ | refine z_fz (by with_unfolding_all rfl) ?_ | refine z_fzL (by with_unfolding_all rfl) (by with_unfolding_all rfl) (by simp only [restG, wipeG, List.set_cons_zero, List.set_cons_succ, List.getElem?_cons_zero, List.getElem?_cons_succ, Option.getD_some]; with_unfolding_all rfl) ?_ | refine z_set (by simp only [restG, wipeG, List.set_cons_zero, List.set_cons_succ, List.getElem?_cons_zero, List.getElem?_cons_succ, Option.getD_some]; with_unfolding_all rfl) ?_ | refine z_sl (by with_unfolding_all rfl) ?_ | refine z_addI ?_ | refine z_subI ?_ | refine z_mulI (by first | exact mulC_l | exact mulC_r) ?_ | refine z_divI (by omega) (by omega) ?_ | refine z_modI (by omega) ?_ | refine z_powI (by with_unfolding_all rfl) ?_ | refine z_negI ?_ | refine z_ltI ?_ | refine z_leI ?_ | refine z_gtI ?_ | refine z_geI ?_ | refine z_maxI ?_ | refine z_minI ?_ | refine z_eqI ?_ | refine z_eqB ?_ | refine Eq.mpr wp_isi ?_ | refine z_neI ?_ | refine z_eqS ?_ | refine z_neS ?_ | refine z_lenG ?_ | refine z_lenGT ?_ | refine z_lenL ?_ | refine z_lenT ?_ | refine z_lenO ?_ | refine z_lenS (by omega) ?_ | refine z_slHi (by omega) ?_ | refine z_slLo (by omega) ?_ | refine z_slB (by omega) ?_ | refine z_addS (by with_unfolding_all ((try simp only [len_app]); omega)) ?_ | refine z_itL ?_ | refine z_itT ?_ | refine z_itS ?_ | refine z_itgL ?_ | refine z_itgT ?_ | refine z_call ?_ | refine z_cw (by with_unfolding_all rfl) (by simp only [List.map_nil, List.append_nil]; rfl) ?_ | refine z_back (by with_unfolding_all rfl) (by simp only [giveA, List.length_cons, List.length_nil, List.take_succ_cons, List.take_zero, List.getElem?_cons_zero, List.getElem?_cons_succ, List.set_cons_zero, List.set_cons_succ]; with_unfolding_all rfl) ?_ | refine z_fin (by with_unfolding_all rfl) ?_)
        refine fw_right (by omega) ?_
        repeat (with_reducible first | refine z_lenOk (by with_unfolding_all rfl) ?_ | refine Eq.mpr optW_some ?_ | refine Eq.mpr fw_ok ?_ | refine Eq.mpr wp_seq ?_ | refine Eq.mpr wp_asg ?_ | refine Eq.mpr wp_retM ?_ | refine Eq.mpr wp_if ?_ | refine Eq.mpr wp_tst ?_ | refine Eq.mpr wp_op ?_ | refine Eq.mpr wp_cons ?_ | refine Eq.mpr wp_d ?_ | refine Eq.mpr wp_ret ?_ | refine Eq.mpr wp_valA ?_ | refine Eq.mpr wp_bd ?_ | refine Eq.mpr wp_andV ?_ | refine Eq.mpr wp_orV ?_ | refine Eq.mpr wp_notV ?_ | refine Eq.mpr wp_notZ ?_ | refine Eq.mpr wp_andZ ?_ | refine Eq.mpr wp_orZ ?_ | refine Eq.mpr wp_lst ?_ | refine Eq.mpr wp_tup ?_ | refine Eq.mpr wp_drop ?_ | refine Eq.mpr wp_bl ?_ | refine Eq.mpr wp_ch ?_ | refine Eq.mpr wp_slLh ?_ | refine Eq.mpr wp_up ?_ | refine Eq.mpr wp_join ?_ | refine Eq.mpr wp_comp ?_ | refine Eq.mpr wp_vw ?_ | refine Eq.mpr wp_opt ?_ | refine z_rd (by with_unfolding_all rfl) ?_ | refine z_pk (by with_unfolding_all rfl) ?_ | refine z_mv (by with_unfolding_all rfl) (by simp only [restG, wipeG, List.set_cons_zero, List.set_cons_succ, List.getElem?_cons_zero, List.getElem?_cons_succ, Option.getD_some]; with_unfolding_all rfl) ?_ | refine z_fz (by with_unfolding_all rfl) ?_ | refine z_fzL (by with_unfolding_all rfl) (by with_unfolding_all rfl) (by simp only [restG, wipeG, List.set_cons_zero, List.set_cons_succ, List.getElem?_cons_zero, List.getElem?_cons_succ, Option.getD_some]; with_unfolding_all rfl) ?_ | refine z_set (by simp only [restG, wipeG, List.set_cons_zero, List.set_cons_succ, List.getElem?_cons_zero, List.getElem?_cons_succ, Option.getD_some]; with_unfolding_all rfl) ?_ | refine z_sl (by with_unfolding_all rfl) ?_ | refine z_addI ?_ | refine z_subI ?_ | refine z_mulI (by first | exact mulC_l | exact mulC_r) ?_ | refine z_divI (by omega) (by omega) ?_ | refine z_modI (by omega) ?_ | refine z_powI (by with_unfolding_all rfl) ?_ | refine z_negI ?_ | refine z_ltI ?_ | refine z_leI ?_ | refine z_gtI ?_ | refine z_geI ?_ | refine z_maxI ?_ | refine z_minI ?_ | refine z_eqI ?_ | refine z_eqB ?_ | refine Eq.mpr wp_isi ?_ | refine z_neI ?_ | refine z_eqS ?_ | refine z_neS ?_ | refine z_lenG ?_ | refine z_lenGT ?_ | refine z_lenL ?_ | refine z_lenT ?_ | refine z_lenO ?_ | refine z_lenS (by omega) ?_ | refine z_slHi (by omega) ?_ | refine z_slLo (by omega) ?_ | refine z_slB (by omega) ?_ | refine z_addS (by with_unfolding_all ((try simp only [len_app]); omega)) ?_ | refine z_itL ?_ | refine z_itT ?_ | refine z_itS ?_ | refine z_itgL ?_ | refine z_itgT ?_ | refine z_call ?_ | refine z_cw (by with_unfolding_all rfl) (by simp only [List.map_nil, List.append_nil]; rfl) ?_ | refine z_back (by with_unfolding_all rfl) (by simp only [giveA, List.length_cons, List.length_nil, List.take_succ_cons, List.take_zero, List.getElem?_cons_zero, List.getElem?_cons_succ, List.set_cons_zero, List.set_cons_succ]; with_unfolding_all rfl) ?_ | refine z_fin (by with_unfolding_all rfl) ?_)
        refine z_ifF (by simp) ?_
        repeat (with_reducible first | refine z_lenOk (by with_unfolding_all rfl) ?_ | refine Eq.mpr optW_some ?_ | refine Eq.mpr fw_ok ?_ | refine Eq.mpr wp_seq ?_ | refine Eq.mpr wp_asg ?_ | refine Eq.mpr wp_retM ?_ | refine Eq.mpr wp_if ?_ | refine Eq.mpr wp_tst ?_ | refine Eq.mpr wp_op ?_ | refine Eq.mpr wp_cons ?_ | refine Eq.mpr wp_d ?_ | refine Eq.mpr wp_ret ?_ | refine Eq.mpr wp_valA ?_ | refine Eq.mpr wp_bd ?_ | refine Eq.mpr wp_andV ?_ | refine Eq.mpr wp_orV ?_ | refine Eq.mpr wp_notV ?_ | refine Eq.mpr wp_notZ ?_ | refine Eq.mpr wp_andZ ?_ | refine Eq.mpr wp_orZ ?_ | refine Eq.mpr wp_lst ?_ | refine Eq.mpr wp_tup ?_ | refine Eq.mpr wp_drop ?_ | refine Eq.mpr wp_bl ?_ | refine Eq.mpr wp_ch ?_ | refine Eq.mpr wp_slLh ?_ | refine Eq.mpr wp_up ?_ | refine Eq.mpr wp_join ?_ | refine Eq.mpr wp_comp ?_ | refine Eq.mpr wp_vw ?_ | refine Eq.mpr wp_opt ?_ | refine z_rd (by with_unfolding_all rfl) ?_ | refine z_pk (by with_unfolding_all rfl) ?_ | refine z_mv (by with_unfolding_all rfl) (by simp only [restG, wipeG, List.set_cons_zero, List.set_cons_succ, List.getElem?_cons_zero, List.getElem?_cons_succ, Option.getD_some]; with_unfolding_all rfl) ?_ | refine z_fz (by with_unfolding_all rfl) ?_ | refine z_fzL (by with_unfolding_all rfl) (by with_unfolding_all rfl) (by simp only [restG, wipeG, List.set_cons_zero, List.set_cons_succ, List.getElem?_cons_zero, List.getElem?_cons_succ, Option.getD_some]; with_unfolding_all rfl) ?_ | refine z_set (by simp only [restG, wipeG, List.set_cons_zero, List.set_cons_succ, List.getElem?_cons_zero, List.getElem?_cons_succ, Option.getD_some]; with_unfolding_all rfl) ?_ | refine z_sl (by with_unfolding_all rfl) ?_ | refine z_addI ?_ | refine z_subI ?_ | refine z_mulI (by first | exact mulC_l | exact mulC_r) ?_ | refine z_divI (by omega) (by omega) ?_ | refine z_modI (by omega) ?_ | refine z_powI (by with_unfolding_all rfl) ?_ | refine z_negI ?_ | refine z_ltI ?_ | refine z_leI ?_ | refine z_gtI ?_ | refine z_geI ?_ | refine z_maxI ?_ | refine z_minI ?_ | refine z_eqI ?_ | refine z_eqB ?_ | refine Eq.mpr wp_isi ?_ | refine z_neI ?_ | refine z_eqS ?_ | refine z_neS ?_ | refine z_lenG ?_ | refine z_lenGT ?_ | refine z_lenL ?_ | refine z_lenT ?_ | refine z_lenO ?_ | refine z_lenS (by omega) ?_ | refine z_slHi (by omega) ?_ | refine z_slLo (by omega) ?_ | refine z_slB (by omega) ?_ | refine z_addS (by with_unfolding_all ((try simp only [len_app]); omega)) ?_ | refine z_itL ?_ | refine z_itT ?_ | refine z_itS ?_ | refine z_itgL ?_ | refine z_itgT ?_ | refine z_call ?_ | refine z_cw (by with_unfolding_all rfl) (by simp only [List.map_nil, List.append_nil]; rfl) ?_ | refine z_back (by with_unfolding_all rfl) (by simp only [giveA, List.length_cons, List.length_nil, List.take_succ_cons, List.take_zero, List.getElem?_cons_zero, List.getElem?_cons_succ, List.set_cons_zero, List.set_cons_succ]; with_unfolding_all rfl) ?_ | refine z_fin (by with_unfolding_all rfl) ?_)
        refine fw_right (by omega) ?_
        repeat (with_reducible first | refine z_lenOk (by with_unfolding_all rfl) ?_ | refine Eq.mpr optW_some ?_ | refine Eq.mpr fw_ok ?_ | refine Eq.mpr wp_seq ?_ | refine Eq.mpr wp_asg ?_ | refine Eq.mpr wp_retM ?_ | refine Eq.mpr wp_if ?_ | refine Eq.mpr wp_tst ?_ | refine Eq.mpr wp_op ?_ | refine Eq.mpr wp_cons ?_ | refine Eq.mpr wp_d ?_ | refine Eq.mpr wp_ret ?_ | refine Eq.mpr wp_valA ?_ | refine Eq.mpr wp_bd ?_ | refine Eq.mpr wp_andV ?_ | refine Eq.mpr wp_orV ?_ | refine Eq.mpr wp_notV ?_ | refine Eq.mpr wp_notZ ?_ | refine Eq.mpr wp_andZ ?_ | refine Eq.mpr wp_orZ ?_ | refine Eq.mpr wp_lst ?_ | refine Eq.mpr wp_tup ?_ | refine Eq.mpr wp_drop ?_ | refine Eq.mpr wp_bl ?_ | refine Eq.mpr wp_ch ?_ | refine Eq.mpr wp_slLh ?_ | refine Eq.mpr wp_up ?_ | refine Eq.mpr wp_join ?_ | refine Eq.mpr wp_comp ?_ | refine Eq.mpr wp_vw ?_ | refine Eq.mpr wp_opt ?_ | refine z_rd (by with_unfolding_all rfl) ?_ | refine z_pk (by with_unfolding_all rfl) ?_ | refine z_mv (by with_unfolding_all rfl) (by simp only [restG, wipeG, List.set_cons_zero, List.set_cons_succ, List.getElem?_cons_zero, List.getElem?_cons_succ, Option.getD_some]; with_unfolding_all rfl) ?_ | refine z_fz (by with_unfolding_all rfl) ?_ | refine z_fzL (by with_unfolding_all rfl) (by with_unfolding_all rfl) (by simp only [restG, wipeG, List.set_cons_zero, List.set_cons_succ, List.getElem?_cons_zero, List.getElem?_cons_succ, Option.getD_some]; with_unfolding_all rfl) ?_ | refine z_set (by simp only [restG, wipeG, List.set_cons_zero, List.set_cons_succ, List.getElem?_cons_zero, List.getElem?_cons_succ, Option.getD_some]; with_unfolding_all rfl) ?_ | refine z_sl (by with_unfolding_all rfl) ?_ | refine z_addI ?_ | refine z_subI ?_ | refine z_mulI (by first | exact mulC_l | exact mulC_r) ?_ | refine z_divI (by omega) (by omega) ?_ | refine z_modI (by omega) ?_ | refine z_powI (by with_unfolding_all rfl) ?_ | refine z_negI ?_ | refine z_ltI ?_ | refine z_leI ?_ | refine z_gtI ?_ | refine z_geI ?_ | refine z_maxI ?_ | refine z_minI ?_ | refine z_eqI ?_ | refine z_eqB ?_ | refine Eq.mpr wp_isi ?_ | refine z_neI ?_ | refine z_eqS ?_ | refine z_neS ?_ | refine z_lenG ?_ | refine z_lenGT ?_ | refine z_lenL ?_ | refine z_lenT ?_ | refine z_lenO ?_ | refine z_lenS (by omega) ?_ | refine z_slHi (by omega) ?_ | refine z_slLo (by omega) ?_ | refine z_slB (by omega) ?_ | refine z_addS (by with_unfolding_all ((try simp only [len_app]); omega)) ?_ | refine z_itL ?_ | refine z_itT ?_ | refine z_itS ?_ | refine z_itgL ?_ | refine z_itgT ?_ | refine z_call ?_ | refine z_cw (by with_unfolding_all rfl) (by simp only [List.map_nil, List.append_nil]; rfl) ?_ | refine z_back (by with_unfolding_all rfl) (by simp only [giveA, List.length_cons, List.length_nil, List.take_succ_cons, List.take_zero, List.getElem?_cons_zero, List.getElem?_cons_succ, List.set_cons_zero, List.set_cons_succ]; with_unfolding_all rfl) ?_ | refine z_fin (by with_unfolding_all rfl) ?_)
        refine z_ifF (by simp) ?_
        repeat (with_reducible first | refine z_lenOk (by with_unfolding_all rfl) ?_ | refine Eq.mpr optW_some ?_ | refine Eq.mpr fw_ok ?_ | refine Eq.mpr wp_seq ?_ | refine Eq.mpr wp_asg ?_ | refine Eq.mpr wp_retM ?_ | refine Eq.mpr wp_if ?_ | refine Eq.mpr wp_tst ?_ | refine Eq.mpr wp_op ?_ | refine Eq.mpr wp_cons ?_ | refine Eq.mpr wp_d ?_ | refine Eq.mpr wp_ret ?_ | refine Eq.mpr wp_valA ?_ | refine Eq.mpr wp_bd ?_ | refine Eq.mpr wp_andV ?_ | refine Eq.mpr wp_orV ?_ | refine Eq.mpr wp_notV ?_ | refine Eq.mpr wp_notZ ?_ | refine Eq.mpr wp_andZ ?_ | refine Eq.mpr wp_orZ ?_ | refine Eq.mpr wp_lst ?_ | refine Eq.mpr wp_tup ?_ | refine Eq.mpr wp_drop ?_ | refine Eq.mpr wp_bl ?_ | refine Eq.mpr wp_ch ?_ | refine Eq.mpr wp_slLh ?_ | refine Eq.mpr wp_up ?_ | refine Eq.mpr wp_join ?_ | refine Eq.mpr wp_comp ?_ | refine Eq.mpr wp_vw ?_ | refine Eq.mpr wp_opt ?_ | refine z_rd (by with_unfolding_all rfl) ?_ | refine z_pk (by with_unfolding_all rfl) ?_ | refine z_mv (by with_unfolding_all rfl) (by simp only [restG, wipeG, List.set_cons_zero, List.set_cons_succ, List.getElem?_cons_zero, List.getElem?_cons_succ, Option.getD_some]; with_unfolding_all rfl) ?_ | refine z_fz (by with_unfolding_all rfl) ?_ | refine z_fzL (by with_unfolding_all rfl) (by with_unfolding_all rfl) (by simp only [restG, wipeG, List.set_cons_zero, List.set_cons_succ, List.getElem?_cons_zero, List.getElem?_cons_succ, Option.getD_some]; with_unfolding_all rfl) ?_ | refine z_set (by simp only [restG, wipeG, List.set_cons_zero, List.set_cons_succ, List.getElem?_cons_zero, List.getElem?_cons_succ, Option.getD_some]; with_unfolding_all rfl) ?_ | refine z_sl (by with_unfolding_all rfl) ?_ | refine z_addI ?_ | refine z_subI ?_ | refine z_mulI (by first | exact mulC_l | exact mulC_r) ?_ | refine z_divI (by omega) (by omega) ?_ | refine z_modI (by omega) ?_ | refine z_powI (by with_unfolding_all rfl) ?_ | refine z_negI ?_ | refine z_ltI ?_ | refine z_leI ?_ | refine z_gtI ?_ | refine z_geI ?_ | refine z_maxI ?_ | refine z_minI ?_ | refine z_eqI ?_ | refine z_eqB ?_ | refine Eq.mpr wp_isi ?_ | refine z_neI ?_ | refine z_eqS ?_ | refine z_neS ?_ | refine z_lenG ?_ | refine z_lenGT ?_ | refine z_lenL ?_ | refine z_lenT ?_ | refine z_lenO ?_ | refine z_lenS (by omega) ?_ | refine z_slHi (by omega) ?_ | refine z_slLo (by omega) ?_ | refine z_slB (by omega) ?_ | refine z_addS (by with_unfolding_all ((try simp only [len_app]); omega)) ?_ | refine z_itL ?_ | refine z_itT ?_ | refine z_itS ?_ | refine z_itgL ?_ | refine z_itgT ?_ | refine z_call ?_ | refine z_cw (by with_unfolding_all rfl) (by simp only [List.map_nil, List.append_nil]; rfl) ?_ | refine z_back (by with_unfolding_all rfl) (by simp only [giveA, List.length_cons, List.length_nil, List.take_succ_cons, List.take_zero, List.getElem?_cons_zero, List.getElem?_cons_succ, List.set_cons_zero, List.set_cons_succ]; with_unfolding_all rfl) ?_ | refine z_fin (by with_unfolding_all rfl) ?_)
        exact ⟨hd', _, _, _, _, _, rfl⟩
    · rintro g ⟨_, o1, o2, o3, o4, o5, rfl⟩
      repeat (with_reducible first | refine z_lenOk (by with_unfolding_all rfl) ?_ | refine Eq.mpr optW_some ?_ | refine Eq.mpr fw_ok ?_ | refine Eq.mpr wp_seq ?_ | refine Eq.mpr wp_asg ?_ | refine Eq.mpr wp_retM ?_ | refine Eq.mpr wp_if ?_ | refine Eq.mpr wp_tst ?_ | refine Eq.mpr wp_op ?_ | refine Eq.mpr wp_cons ?_ | refine Eq.mpr wp_d ?_ | refine Eq.mpr wp_ret ?_ | refine Eq.mpr wp_valA ?_ | refine Eq.mpr wp_bd ?_ | refine Eq.mpr wp_andV ?_ | refine Eq.mpr wp_orV ?_ | refine Eq.mpr wp_notV ?_ | refine Eq.mpr wp_notZ ?_ | refine Eq.mpr wp_andZ ?_ | refine Eq.mpr wp_orZ ?_ | refine Eq.mpr wp_lst ?_ | refine Eq.mpr wp_tup ?_ | refine Eq.mpr wp_drop ?_ | refine Eq.mpr wp_bl ?_ | refine Eq.mpr wp_ch ?_ | refine Eq.mpr wp_slLh ?_ | refine Eq.mpr wp_up ?_ | refine Eq.mpr wp_join ?_ | refine Eq.mpr wp_comp ?_ | refine Eq.mpr wp_vw ?_ | refine Eq.mpr wp_opt ?_ | refine z_rd (by with_unfolding_all rfl) ?_ | refine z_pk (by with_unfolding_all rfl) ?_ | refine z_mv (by with_unfolding_all rfl) (by simp only [restG, wipeG, List.set_cons_zero, List.set_cons_succ, List.getElem?_cons_zero, List.getElem?_cons_succ, Option.getD_some]; with_unfolding_all rfl) ?_ | refine z_fz (by with_unfolding_all rfl) ?_ | refine z_fzL (by with_unfolding_all rfl) (by with_unfolding_all rfl) (by simp only [restG, wipeG, List.set_cons_zero, List.set_cons_succ, List.getElem?_cons_zero, List.getElem?_cons_succ, Option.getD_some]; with_unfolding_all rfl) ?_ | refine z_set (by simp only [restG, wipeG, List.set_cons_zero, List.set_cons_succ, List.getElem?_cons_zero, List.getElem?_cons_succ, Option.getD_some]; with_unfolding_all rfl) ?_ | refine z_sl (by with_unfolding_all rfl) ?_ | refine z_addI ?_ | refine z_subI ?_ | refine z_mulI (by first | exact mulC_l | exact mulC_r) ?_ | refine z_divI (by omega) (by omega) ?_ | refine z_modI (by omega) ?_ | refine z_powI (by with_unfolding_all rfl) ?_ | refine z_negI ?_ | refine z_ltI ?_ | refine z_leI ?_ | refine z_gtI ?_ | refine z_geI ?_ | refine z_maxI ?_ | refine z_minI ?_ | refine z_eqI ?_ | refine z_eqB ?_ | refine Eq.mpr wp_isi ?_ | refine z_neI ?_ | refine z_eqS ?_ | refine z_neS ?_ | refine z_lenG ?_ | refine z_lenGT ?_ | refine z_lenL ?_ | refine z_lenT ?_ | refine z_lenO ?_ | refine z_lenS (by omega) ?_ | refine z_slHi (by omega) ?_ | refine z_slLo (by omega) ?_ | refine z_slB (by omega) ?_ | refine z_addS (by with_unfolding_all ((try simp only [len_app]); omega)) ?_ | refine z_itL ?_ | refine z_itT ?_ | refine z_itS ?_ | refine z_itgL ?_ | refine z_itgT ?_ | refine z_call ?_ | refine z_cw (by with_unfolding_all rfl) (by simp only [List.map_nil, List.append_nil]; rfl) ?_ | refine z_back (by with_unfolding_all rfl) (by simp only [giveA, List.length_cons, List.length_nil, List.take_succ_cons, List.take_zero, List.getElem?_cons_zero, List.getElem?_cons_succ, List.set_cons_zero, List.set_cons_succ]; with_unfolding_all rfl) ?_ | refine z_fin (by with_unfolding_all rfl) ?_)
      exact ⟨rfl, rfl⟩
    · intro d hd
      obtain ⟨i, _, rfl⟩ := List.mem_map.mp hd
      exact ⟨i, by simp⟩
  unfold trueF
  generalize f_law [.gL (ns.map PyData.int)] = q at main
  cases q with
  | ok r ps =>
    obtain ⟨rfl, h⟩ := main
    exact ⟨ps, rfl, h⟩
  | ex x => exact main.elim
  | bad => exact main.elim
end Lawk09

namespace Lawk09
open PySem PySem.Spec L2 Z
def topS (i : Nat) : Stmt := PySem.Challenge.pw_unsaidways_k09_names.main.body.getD i (.Pass ⟨0, 0, 0, 0⟩)
/-- what the module's names hold -/
structure Nm (K : PySem.W.Frag) (mg : Str → Option Value) : Prop where
  m_all : mg "all" = none
  m_bool : mg "bool" = none
  m_isinstance : mg "isinstance" = none
  m_len : mg "len" = none
  m_max : mg "max" = none
  m_min : mg "min" = none
  m_range : mg "range" = none
  h_LETTERS : ∀ (X : Cx) (W : WX) (pos : Pos), X.K = K → X.mg = mg → Gl X "LETTERS" → Ev X W true (.Name "LETTERS" pos) (dM (.str "abcdefghijklmnopqrstuvwxyz"))
  h_LONGEST : ∀ (X : Cx) (W : WX) (pos : Pos), X.K = K → X.mg = mg → Gl X "LONGEST" → Ev X W true (.Name "LONGEST" pos) (dM (.int 5))
  h_TAKEN : ∀ (X : Cx) (W : WX) (pos : Pos), X.K = K → X.mg = mg → Gl X "TAKEN" → Ev X W true (.Name "TAKEN" pos) (M.ret (.gT [(.str "yes"), (.str "no"), (.str "not"), (.str "and"), (.str "or"), (.str "done"), (.str "then"), (.str "if"), (.str "while"), (.str "either"), (.str "often"), (.str "asks"), (.str "deeds"), (.str "keeps"), (.str "makes"), (.str "rests"), (.str "idles"), (.str "still"), (.str "never")]))

/-! is_name -/
theorem sc_is_name : FnScope ["text", "sign"] ["text"] (defScope (topS 4)) := ⟨rfl, rfl, rfl, by decide +kernel, rfl, by decide +kernel, by decide +kernel⟩
theorem ok_is_name {P : Program} {w : World} {K : PySem.W.Frag} {mg : Str → Option Value} {base : Heap} (B : Nm K mg) {a : Addr} {fd : FuncData} (F : Fun K "is_name" "is_name" (topS 4) a fd) :
    FnOk P w K mg base (L2.CX P w) 1 a fd ["text"] (spF K mg 1 f_is_name) :=
  fnRule 1 F sc_is_name (by decide) fun cdv A outer s H E c =>
    (ess_one (es_ret (ev_and (ev_chain op_lt op_le pr_lt pr_le ev_int (ev_bi call_len pr_len B.m_len boot_len_ (eas_p (ep_pk 0) eas_nil)) (B.h_LONGEST _ _ _ (by rfl) (by rfl) (by rfl)) rfl) (ev_and (ev_cmp op_notIn2 pr_in (eas_p (ep_pk 0) (eas_p (B.h_TAKEN _ _ _ (by rfl) (by rfl) (by rfl)).p eas_nil)) rfl) (ev_one (ev_bi (cr_all c.calm) pr_all B.m_all boot_all_ (eas_p (ev_comp c (own := [("sign", 1)]) (ei_seq (ev_fz 0)) (blkOk_by (by kernel_rfl)) (fun bi => (eb_name 1 (by decide) (c.blk _ bi).nd rfl (by first | exact Or.inl rfl | exact Or.inr rfl))) (fun bi => ec_yes) (fun bi => (ev_cmp op_in2 pr_in (eas_p (ep_pk 1) (eas_p (B.h_LETTERS _ _ _ (by rfl) (by rfl) (by rfl)).p eas_nil)) rfl))).1.p eas_nil)))))))

/-! _law_box -/
theorem sc_law_box : FnScope ["_law_script", "_law_k", "_law_cell", "_law_seed"] ["_law_script", "_law_k"] (defScope (topS 6)) := ⟨rfl, rfl, rfl, by decide +kernel, rfl, by decide +kernel, by decide +kernel⟩
theorem ok_law_box {P : Program} {w : World} {K : PySem.W.Frag} {mg : Str → Option Value} {base : Heap} (B : Nm K mg) {a : Addr} {fd : FuncData} (F : Fun K "_law_box" "_law_box" (topS 6) a fd) :
    FnOk P w K mg base (L2.CX P w) 1 a fd ["_law_script", "_law_k"] (spF K mg 2 f_law_box) :=
  fnRule 2 F sc_law_box (by decide) fun cdv A outer s H E c =>
    (ess_cons (es_set 2 (by decide) c.nd rfl (by first | exact Or.inl rfl | exact Or.inr rfl) (ev_op op_add4 pr_add (eas_p (ev_op op_mul pr_mul (eas_p ev_int.p (eas_p (ep_pk 1) eas_nil))).p (eas_p ev_int.p eas_nil))))
    (ess_cons (es_if (et_cmp op_lt pr_lt (eas_p (ep_pk 1) (eas_p (ev_bi call_len pr_len B.m_len boot_len_ (eas_p (ep_pk 0) eas_nil)).p eas_nil)) (nomark _)) (ess_one (es_set 2 (by decide) c.nd rfl (by first | exact Or.inl rfl | exact Or.inr rfl) (ev_ix ix_seq pr_ix (eas_p (ep_pk 0) (eas_p (ep_pk 1) eas_nil))))) (ess_one (es_if (et_cmp op_gt pr_gt (eas_p (ev_bi call_len pr_len B.m_len boot_len_ (eas_p (ep_pk 0) eas_nil)).p (eas_p ev_int.p eas_nil)) (nomark _)) (ess_one (es_set 2 (by decide) c.nd rfl (by first | exact Or.inl rfl | exact Or.inr rfl) (ev_op op_add4 pr_add (eas_p (ep_pk 2) (eas_p (ev_op op_mul pr_mul (eas_p (ev_op op_mod pr_mod (eas_p (ev_ix ix_seq pr_ix (eas_p (ep_pk 0) (eas_p (ev_op op_mod pr_mod (eas_p (ep_pk 1) (eas_p (ev_bi call_len pr_len B.m_len boot_len_ (eas_p (ep_pk 0) eas_nil)).p eas_nil))).p eas_nil))).p (eas_p ev_int.p eas_nil))).p (eas_p ev_int.p eas_nil))).p eas_nil))))) ess_nil)))
    (ess_cons (es_set 3 (by decide) c.nd rfl (by first | exact Or.inl rfl | exact Or.inr rfl) (ev_op op_add4 pr_add (eas_p (ev_op op_mod pr_mod (eas_p (ev_op op_add4 pr_add (eas_p (ev_op op_mul pr_mul (eas_p (ev_op op_mod pr_mod (eas_p (ep_pk 2) (eas_p ev_int.p eas_nil))).p (eas_p ev_int.p eas_nil))).p (eas_p (ev_op op_mul pr_mul (eas_p ev_int.p (eas_p (ep_pk 1) eas_nil))).p eas_nil))).p (eas_p ev_int.p eas_nil))).p (eas_p ev_int.p eas_nil))))
    (ess_cons (es_if (et_cmp op_lt pr_lt (eas_p (ep_pk 2) (eas_p (ev_op op_pow pr_pow (eas_p ev_int.p (eas_p ev_int.p eas_nil))).p eas_nil)) (nomark _)) (ess_one (es_set 2 (by decide) c.nd rfl (by first | exact Or.inl rfl | exact Or.inr rfl) ev_int)) ess_nil)
    (ess_one (es_ret (ev_lst (ees_cons (ev_fz 2) (ees_cons (ev_fz 3) ees_nil)))))))))

/-! _law_take -/
theorem sc_law_take : FnScope ["_law_box_here", "_law_many", "_law_digit", "_law_one"] ["_law_box_here", "_law_many"] (defScope (topS 7)) := ⟨rfl, rfl, rfl, by decide +kernel, rfl, by decide +kernel, by decide +kernel⟩
theorem ok_law_take {P : Program} {w : World} {K : PySem.W.Frag} {mg : Str → Option Value} {base : Heap} (B : Nm K mg) {a : Addr} {fd : FuncData} (F : Fun K "_law_take" "_law_take" (topS 7) a fd) :
    FnOk P w K mg base (L2.CX P w) 1 a fd ["_law_box_here", "_law_many"] (spF K mg 2 f_law_take) :=
  fnRule 2 F sc_law_take (by decide) fun cdv A outer s H E c =>
    (ess_cons (es_if (et_cmp op_gt pr_gt (eas_p (ev_ix ix_seq pr_ix (eas_p (ep_pk 0) (eas_p ev_int.p eas_nil))).p (eas_p ev_int.p eas_nil)) (nomark _)) (ess_cons (es_set 2 (by decide) c.nd rfl (by first | exact Or.inl rfl | exact Or.inr rfl) (ev_op op_mod pr_mod (eas_p (ev_ix ix_seq pr_ix (eas_p (ep_pk 0) (eas_p ev_int.p eas_nil))).p (eas_p (ep_pk 1) eas_nil))))
    (ess_cons (es_asg (ev_op op_fdiv pr_div (eas_p (ev_ix ix_seq pr_ix (eas_p (ep_pk 0) (eas_p ev_int.p eas_nil))).p (eas_p (ep_pk 1) eas_nil))) (eg_ix 0 ev_int))
    (ess_one (es_ret (ev_mv 2))))) ess_nil)
    (ess_cons (es_set 3 (by decide) c.nd rfl (by first | exact Or.inl rfl | exact Or.inr rfl) (ev_op op_mod pr_mod (eas_p (ev_op op_mul pr_mul (eas_p (ev_ix ix_seq pr_ix (eas_p (ep_pk 0) (eas_p ev_int.p eas_nil))).p (eas_p ev_int.p eas_nil))).p (eas_p ev_int.p eas_nil))))
    (ess_cons (es_asg (ev_op op_add4 pr_add (eas_p (ev_op op_mod pr_mod (eas_p (ev_op op_add4 pr_add (eas_p (ev_op op_mul pr_mul (eas_p (ep_pk 3) (eas_p ev_int.p eas_nil))).p (eas_p ev_int.p eas_nil))).p (eas_p ev_int.p eas_nil))).p (eas_p ev_int.p eas_nil))) (eg_ix 0 ev_int))
    (ess_one (es_ret (ev_op op_mod pr_mod (eas_p (ev_op op_fdiv pr_div (eas_p (ev_op op_add4 pr_add (eas_p (ev_op op_mul pr_mul (eas_p (ep_pk 3) (eas_p ev_int.p eas_nil))).p (eas_p (ev_ix ix_seq pr_ix (eas_p (ep_pk 0) (eas_p ev_int.p eas_nil))).p eas_nil))).p (eas_p ev_int.p eas_nil))).p (eas_p (ep_pk 1) eas_nil))))))))

/-! _law_taken -/
theorem sc_law_taken : FnScope ["_law_some"] [] (defScope (topS 8)) := ⟨rfl, rfl, rfl, by decide +kernel, rfl, by decide +kernel, by decide +kernel⟩
theorem ok_law_taken {P : Program} {w : World} {K : PySem.W.Frag} {mg : Str → Option Value} {base : Heap} (B : Nm K mg) {a : Addr} {fd : FuncData} (F : Fun K "_law_taken" "_law_taken" (topS 8) a fd) :
    FnOk P w K mg base (L2.CX P w) 1 a fd [] (spF K mg 0 f_law_taken) :=
  fnRule 0 F sc_law_taken (by decide) fun cdv A outer s H E c =>
    (ess_cons (es_set 0 (by decide) c.nd rfl (by first | exact Or.inl rfl | exact Or.inr rfl) (ev_lst (ees_cons ev_str (ees_cons ev_str (ees_cons ev_str (ees_cons ev_str (ees_cons ev_str (ees_cons ev_str (ees_cons ev_str (ees_cons ev_str (ees_cons ev_str (ees_cons ev_str (ees_cons ev_str (ees_cons ev_str (ees_cons ev_str ees_nil)))))))))))))))
    (ess_one (es_ret (ev_op op_add4 pr_add (eas_p (ep_pk 0) (eas_p (ev_lst (ees_cons ev_str (ees_cons ev_str (ees_cons ev_str (ees_cons ev_str (ees_cons ev_str (ees_cons ev_str ees_nil))))))).p eas_nil))))))

/-! _law_name -/
theorem sc_law_name : FnScope ["_law_box_here", "_law_letters", "_law_name_here", "_law_word", "_law_at", "_law_some", "_law_k"] ["_law_box_here"] (defScope (topS 9)) := ⟨rfl, rfl, rfl, by decide +kernel, rfl, by decide +kernel, by decide +kernel⟩
theorem ok_law_name {P : Program} {w : World} {K : PySem.W.Frag} {mg : Str → Option Value} {base : Heap} (B : Nm K mg) (C_law_taken : Callee P w K mg base "_law_taken" 1 0 [] f_law_taken) (C_law_take : Callee P w K mg base "_law_take" 1 2 [] f_law_take) {a : Addr} {fd : FuncData} (F : Fun K "_law_name" "_law_name" (topS 9) a fd) :
    FnOk P w K mg base (L2.CX P w) 2 a fd ["_law_box_here"] (spF K mg 1 f_law_name) :=
  fnRule 1 F sc_law_name (by decide) fun cdv A outer s H E c =>
    (ess_cons (es_set 1 (by decide) c.nd rfl (by first | exact Or.inl rfl | exact Or.inr rfl) ev_str)
    (ess_cons (es_set 2 (by decide) c.nd rfl (by first | exact Or.inl rfl | exact Or.inr rfl) (ev_join ev_str (ev_comp c (own := [("_law_k", 6)]) (ei_range1 (ees_cons (ev_op op_add4 pr_add (eas_e ev_int (eas_p (ev_call c C_law_take (by omega) (by rfl) (eu_sl 0 (eu_val ev_int eu_nil))).p eas_nil))) ees_nil) (by rfl) B.m_range) (blkOk_by (by kernel_rfl)) (fun bi => (eb_name 6 (by decide) (c.blk _ bi).nd rfl (by first | exact Or.inl rfl | exact Or.inr rfl))) (fun bi => ec_yes) (fun bi => (ev_ix ix_seq pr_ix (eas_e (ev_fz 1) (eas_p (ev_call (c.blk _ bi) C_law_take (by omega) (by rfl) (eu_sl 0 (eu_val ev_int eu_nil))).p eas_nil))))).1.p))
    (ess_cons (es_if (et_cmp (op_eq2 c.hr.units) pr_eq (eas_p (ev_call c C_law_take (by omega) (by rfl) (eu_sl 0 (eu_val ev_int eu_nil))).p (eas_p ev_int.p eas_nil)) (nomark _)) (ess_cons (es_set 3 (by decide) c.nd rfl (by first | exact Or.inl rfl | exact Or.inr rfl) (ev_ix ix_seq pr_ix (eas_e (ev_call0 c C_law_taken (by omega) (by rfl)) (eas_p (ev_call c C_law_take (by omega) (by rfl) (eu_sl 0 (eu_val ev_int eu_nil))).p eas_nil))))
    (ess_cons (es_set 4 (by decide) c.nd rfl (by first | exact Or.inl rfl | exact Or.inr rfl) (ev_call c C_law_take (by omega) (by rfl) (eu_sl 0 (eu_val (ev_op op_add4 pr_add (eas_p (ev_bi call_len pr_len B.m_len boot_len_ (eas_p (ep_pk 3) eas_nil)).p (eas_p ev_int.p eas_nil))) eu_nil))))
    (ess_cons (es_set 5 (by decide) c.nd rfl (by first | exact Or.inl rfl | exact Or.inr rfl) (ev_lst (ees_cons (ev_op op_add4 pr_add (eas_p (ev_slHi (eas_p (ep_pk 3) (eas_p (ep_pk 4) eas_nil))).p (eas_p (ev_slLo (eas_p (ep_pk 3) (eas_p (ev_op op_add4 pr_add (eas_p (ep_pk 4) (eas_p ev_int.p eas_nil))).p eas_nil))).p eas_nil))) (ees_cons (ev_op op_add4 pr_add (eas_p (ev_op op_add4 pr_add (eas_p (ev_slHi (eas_p (ep_pk 3) (eas_p (ep_pk 4) eas_nil))).p (eas_p (ev_ix ix_seq pr_ix (eas_p (ep_pk 2) (eas_p ev_int.p eas_nil))).p eas_nil))).p (eas_p (ev_slLo (eas_p (ep_pk 3) (eas_p (ep_pk 4) eas_nil))).p eas_nil))) (ees_cons (ev_op op_add4 pr_add (eas_p (ev_op op_add4 pr_add (eas_p (ev_slHi (eas_p (ep_pk 3) (eas_p (ep_pk 4) eas_nil))).p (eas_p (ev_ix ix_seq pr_ix (eas_p (ep_pk 2) (eas_p ev_int.p eas_nil))).p eas_nil))).p (eas_p (ev_slLo (eas_p (ep_pk 3) (eas_p (ev_op op_add4 pr_add (eas_p (ep_pk 4) (eas_p ev_int.p eas_nil))).p eas_nil))).p eas_nil))) ees_nil)))))
    (ess_one (es_set 2 (by decide) c.nd rfl (by first | exact Or.inl rfl | exact Or.inr rfl) (ev_slHi (eas_p (ev_ix ix_seq pr_ix (eas_e (ev_fz 5) (eas_p (ev_call c C_law_take (by omega) (by rfl) (eu_sl 0 (eu_val ev_int eu_nil))).p eas_nil))).p (eas_p ev_int.p eas_nil)))))))) ess_nil)
    (ess_cons (es_if (et_cmp (op_eq2 c.hr.units) pr_eq (eas_p (ev_call c C_law_take (by omega) (by rfl) (eu_sl 0 (eu_val ev_int eu_nil))).p (eas_p ev_int.p eas_nil)) (nomark _)) (ess_one (es_set 2 (by decide) c.nd rfl (by first | exact Or.inl rfl | exact Or.inr rfl) (ev_ix ix_seq pr_ix (eas_e (ev_lst (ees_cons ev_str (ees_cons ev_str ees_nil))) (eas_p (ev_call c C_law_take (by omega) (by rfl) (eu_sl 0 (eu_val ev_int eu_nil))).p eas_nil))))) ess_nil)
    (ess_cons (es_if (ew_or (et_cmp (op_eq2 c.hr.units) pr_eq (eas_p (ep_pk 2) (eas_p ev_str.p eas_nil)) (nomark _)) (ew_or1 (et_cmp op_in2 pr_in (eas_e (ev_fz 2) (eas_p (ev_call0 c C_law_taken (by omega) (by rfl)).p eas_nil)) rfl))).t (ess_one (es_set 2 (by decide) c.nd rfl (by first | exact Or.inl rfl | exact Or.inr rfl) ev_str)) ess_nil)
    (ess_one (es_ret (ev_mv 2))))))))

/-! _law_other -/
theorem sc_law_other : FnScope ["_law_box_here", "_law_text", "_law_signs", "_law_sign", "_law_at", "_law_form", "_law_some"] ["_law_box_here", "_law_text"] (defScope (topS 10)) := ⟨rfl, rfl, rfl, by decide +kernel, rfl, by decide +kernel, by decide +kernel⟩
theorem ok_law_other {P : Program} {w : World} {K : PySem.W.Frag} {mg : Str → Option Value} {base : Heap} (B : Nm K mg) (C_law_take : Callee P w K mg base "_law_take" 1 2 [] f_law_take) {a : Addr} {fd : FuncData} (F : Fun K "_law_other" "_law_other" (topS 10) a fd) :
    FnOk P w K mg base (L2.CX P w) 2 a fd ["_law_box_here", "_law_text"] (spF K mg 2 f_law_other) :=
  fnRule 2 F sc_law_other (by decide) fun cdv A outer s H E c =>
    (ess_cons (es_set 2 (by decide) c.nd rfl (by first | exact Or.inl rfl | exact Or.inr rfl) ev_str)
    (ess_cons (es_set 3 (by decide) c.nd rfl (by first | exact Or.inl rfl | exact Or.inr rfl) (ev_ix ix_seq pr_ix (eas_e (ev_fz 2) (eas_p (ev_call c C_law_take (by omega) (by rfl) (eu_sl 0 (eu_val (ev_bi call_len pr_len B.m_len boot_len_ (eas_p (ep_pk 2) eas_nil)) eu_nil))).p eas_nil))))
    (ess_cons (es_set 4 (by decide) c.nd rfl (by first | exact Or.inl rfl | exact Or.inr rfl) (ev_call c C_law_take (by omega) (by rfl) (eu_sl 0 (eu_val (ev_op op_add4 pr_add (eas_p (ev_bi call_len pr_len B.m_len boot_len_ (eas_p (ep_pk 1) eas_nil)).p (eas_p ev_int.p eas_nil))) eu_nil))))
    (ess_cons (es_set 5 (by decide) c.nd rfl (by first | exact Or.inl rfl | exact Or.inr rfl) (ev_call c C_law_take (by omega) (by rfl) (eu_sl 0 (eu_val ev_int eu_nil))))
    (ess_cons (es_set 6 (by decide) c.nd rfl (by first | exact Or.inl rfl | exact Or.inr rfl) (ev_lst (ees_cons (ev_op op_add4 pr_add (eas_p (ev_op op_add4 pr_add (eas_p (ev_slHi (eas_p (ep_pk 1) (eas_p (ep_pk 4) eas_nil))).p (eas_p (ep_pk 3) eas_nil))).p (eas_p (ev_slLo (eas_p (ep_pk 1) (eas_p (ep_pk 4) eas_nil))).p eas_nil))) (ees_cons (ev_op op_add4 pr_add (eas_p (ev_op op_add4 pr_add (eas_p (ev_slHi (eas_p (ep_pk 1) (eas_p (ep_pk 4) eas_nil))).p (eas_p (ep_pk 3) eas_nil))).p (eas_p (ev_slLo (eas_p (ep_pk 1) (eas_p (ev_op op_add4 pr_add (eas_p (ep_pk 4) (eas_p ev_int.p eas_nil))).p eas_nil))).p eas_nil))) (ees_cons (ev_op op_add4 pr_add (eas_p (ev_slHi (eas_p (ep_pk 1) (eas_p (ep_pk 4) eas_nil))).p (eas_p (ev_slLo (eas_p (ep_pk 1) (eas_p (ev_op op_add4 pr_add (eas_p (ep_pk 4) (eas_p ev_int.p eas_nil))).p eas_nil))).p eas_nil))) ees_nil)))))
    (ess_cons (es_set 6 (by decide) c.nd rfl (by first | exact Or.inl rfl | exact Or.inr rfl) (ev_op op_add4 pr_add (eas_e (ev_fz 6) (eas_p (ev_lst (ees_cons (ev_op op_add4 pr_add (eas_p (ev_op op_add4 pr_add (eas_p (ev_slHi (eas_p (ep_pk 1) (eas_p (ep_pk 4) eas_nil))).p (eas_p (ev_upper (ev_slLh (ep_pk 1) (ev_rd 4) (ev_op op_add4 pr_add (eas_p (ep_pk 4) (eas_p ev_int.p eas_nil))))).p eas_nil))).p (eas_p (ev_slLo (eas_p (ep_pk 1) (eas_p (ev_op op_add4 pr_add (eas_p (ep_pk 4) (eas_p ev_int.p eas_nil))).p eas_nil))).p eas_nil))) (ees_cons (ev_op op_add4 pr_add (eas_e (ev_fz 1) (eas_p (ev_slHi (eas_e ev_str (eas_p (ev_call c C_law_take (by omega) (by rfl) (eu_sl 0 (eu_val ev_int eu_nil))).p eas_nil))).p eas_nil))) (ees_cons ev_str ees_nil)))).p eas_nil))))
    (ess_one (es_ret (ev_ix ix_seq pr_ix (eas_p (ep_pk 6) (eas_p (ep_pk 5) eas_nil)))))))))))

/-! _law_due -/
theorem sc_law_due : FnScope ["_law_text", "_law_sign"] ["_law_text"] (defScope (topS 11)) := ⟨rfl, rfl, rfl, by decide +kernel, rfl, by decide +kernel, by decide +kernel⟩
theorem ok_law_due {P : Program} {w : World} {K : PySem.W.Frag} {mg : Str → Option Value} {base : Heap} (B : Nm K mg) (C_law_taken : Callee P w K mg base "_law_taken" 1 0 [] f_law_taken) {a : Addr} {fd : FuncData} (F : Fun K "_law_due" "_law_due" (topS 11) a fd) :
    FnOk P w K mg base (L2.CX P w) 2 a fd ["_law_text"] (spF K mg 1 f_law_due) :=
  fnRule 1 F sc_law_due (by decide) fun cdv A outer s H E c =>
    (ess_cons (es_if (et_cmp op_in2 pr_in (eas_e (ev_fz 0) (eas_p (ev_call0 c C_law_taken (by omega) (by rfl)).p eas_nil)) rfl) (ess_one (es_ret ev_bl)) ess_nil)
    (ess_one (es_ret (ev_and (ev_chain op_lt op_lt pr_lt pr_lt ev_int (ev_bi call_len pr_len B.m_len boot_len_ (eas_p (ep_pk 0) eas_nil)) ev_int rfl) (ev_one (ev_bi (cr_all c.calm) pr_all B.m_all boot_all_ (eas_p (ev_comp c (own := [("_law_sign", 1)]) (ei_seq (ev_fz 0)) (blkOk_by (by kernel_rfl)) (fun bi => (eb_name 1 (by decide) (c.blk _ bi).nd rfl (by first | exact Or.inl rfl | exact Or.inr rfl))) (fun bi => ec_yes) (fun bi => (ev_cmp op_in2 pr_in (eas_p (ep_pk 1) (eas_p ev_str.p eas_nil)) rfl))).1.p eas_nil)))))))

/-! _law_right -/
theorem sc_law_right : FnScope ["_law_text", "_law_found"] ["_law_text"] (defScope (topS 12)) := ⟨rfl, rfl, rfl, by decide +kernel, rfl, by decide +kernel, by decide +kernel⟩
theorem ok_law_right {P : Program} {w : World} {K : PySem.W.Frag} {mg : Str → Option Value} {base : Heap} (B : Nm K mg) (C_law_due : Callee P w K mg base "_law_due" 2 1 [] f_law_due) (C_is_name : Callee P w K mg base "is_name" 1 1 [] f_is_name) {a : Addr} {fd : FuncData} (F : Fun K "_law_right" "_law_right" (topS 12) a fd) :
    FnOk P w K mg base (L2.CX P w) 3 a fd ["_law_text"] (spF K mg 1 f_law_right) :=
  fnRule 1 F sc_law_right (by decide) fun cdv A outer s H E c =>
    (ess_cons (es_set 1 (by decide) c.nd rfl (by first | exact Or.inl rfl | exact Or.inr rfl) (ev_call c C_is_name (by omega) (by rfl) (eu_sl 0 eu_nil)))
    (ess_one (es_ret (ev_and (ev_isi (n := "bool") (nt := "bool") (ep_pk 1) B.m_isinstance boot_isi_ B.m_bool boot_ty_bool) (ev_one (ev_cmp (op_eq2 c.hr.units) pr_eq (eas_e (ev_fz 1) (eas_p (ev_call c C_law_due (by omega) (by rfl) (eu_sl 0 eu_nil)).p eas_nil)) (nomark _)))))))

/-! law -/
theorem sc_law : FnScope ["_law_script", "_law_k", "_law_box_here", "_law_text", "_law_other_here", "_law_turn"] ["_law_script"] (defScope (topS 13)) := ⟨rfl, rfl, rfl, by decide +kernel, rfl, by decide +kernel, by decide +kernel⟩
theorem ok_law {P : Program} {w : World} {K : PySem.W.Frag} {mg : Str → Option Value} {base : Heap} (B : Nm K mg) (C_law_right : Callee P w K mg base "_law_right" 3 1 [] f_law_right) (C_law_take : Callee P w K mg base "_law_take" 1 2 [] f_law_take) (C_law_other : Callee P w K mg base "_law_other" 2 2 [] f_law_other) (C_law_taken : Callee P w K mg base "_law_taken" 1 0 [] f_law_taken) (C_law_name : Callee P w K mg base "_law_name" 2 1 [] f_law_name) (C_law_box : Callee P w K mg base "_law_box" 1 2 [] f_law_box) {a : Addr} {fd : FuncData} (F : Fun K "law" "law" (topS 13) a fd) :
    FnOk P w K mg base (L2.CX P w) 4 a fd ["_law_script"] (spF K mg 1 f_law) :=
  fnRule 1 F sc_law (by decide) fun cdv A outer s H E c =>
    (ess_cons (es_for c (ei_range1 (ees_cons (ev_bi (call_max2 c.calm) pr_max2 B.m_max boot_max_ (eas_p ev_int.p (eas_p (ev_bi (call_min2 c.calm) pr_min2 B.m_min boot_min_ (eas_p ev_int.p (eas_p (ev_bi call_len pr_len B.m_len boot_len_ (eas_p (ep_pk 0) eas_nil)).p eas_nil))).p eas_nil))) ees_nil) (by rfl) B.m_range) (eg_name 1 (by decide) c.nd rfl (by first | exact Or.inl rfl | exact Or.inr rfl)) (ess_cons (es_set 2 (by decide) c.nd rfl (by first | exact Or.inl rfl | exact Or.inr rfl) (ev_call c C_law_box (by omega) (by rfl) (eu_sl 0 (eu_sl 1 eu_nil))))
    (ess_cons (es_set 3 (by decide) c.nd rfl (by first | exact Or.inl rfl | exact Or.inr rfl) (ev_ix ix_seq pr_ix (eas_e (ev_lst (ees_cons (ev_call c C_law_name (by omega) (by rfl) (eu_sl 2 eu_nil)) (ees_cons (ev_ix ix_seq pr_ix (eas_e (ev_call0 c C_law_taken (by omega) (by rfl)) (eas_p (ev_call c C_law_take (by omega) (by rfl) (eu_sl 2 (eu_val ev_int eu_nil))).p eas_nil))) ees_nil))) (eas_p (ev_call c C_law_take (by omega) (by rfl) (eu_sl 2 (eu_val ev_int eu_nil))).p eas_nil))))
    (ess_cons (es_set 4 (by decide) c.nd rfl (by first | exact Or.inl rfl | exact Or.inr rfl) (ev_fz 3))
    (ess_cons (es_for c (ei_range1 (ees_cons (ev_call c C_law_take (by omega) (by rfl) (eu_sl 2 (eu_val ev_int eu_nil))) ees_nil) (by rfl) B.m_range) (eg_name 5 (by decide) c.nd rfl (by first | exact Or.inl rfl | exact Or.inr rfl)) (ess_one (es_set 4 (by decide) c.nd rfl (by first | exact Or.inl rfl | exact Or.inr rfl) (ev_call c C_law_other (by omega) (by rfl) (eu_sl 2 (eu_sl 4 eu_nil))))))
    (ess_one (es_if (ew_or (et_not (et_val (ev_call c C_law_right (by omega) (by rfl) (eu_sl 3 eu_nil)))) (ew_or (et_not (et_val (ev_call c C_law_right (by omega) (by rfl) (eu_sl 4 eu_nil)))) (ew_or1 (et_not (et_val (ev_call c C_law_right (by omega) (by rfl) (eu_sl 3 eu_nil))))))).t (ess_one (es_ret ev_bl)) ess_nil)))))))
    (ess_one (es_ret ev_bl)))

theorem all_ok {P : Program} {w : World} {K : PySem.W.Frag} {mg : Str → Option Value} {fa : Addr} (hfa : mg "law" = some (.ref fa)) (B : Nm K mg) (D_is_name : DefAt K mg "is_name" (topS 4)) (D_law_box : DefAt K mg "_law_box" (topS 6)) (D_law_take : DefAt K mg "_law_take" (topS 7)) (D_law_taken : DefAt K mg "_law_taken" (topS 8)) (D_law_name : DefAt K mg "_law_name" (topS 9)) (D_law_other : DefAt K mg "_law_other" (topS 10)) (D_law_due : DefAt K mg "_law_due" (topS 11)) (D_law_right : DefAt K mg "_law_right" (topS 12)) (D_law : DefAt K mg "law" (topS 13)) :
    ∃ fd : FuncData, (∀ (s : Shared) (u : Value), BindsTo s fd ⟨[u], []⟩ [("_law_script", u)]) ∧ ∀ base : Heap, FnOk P w K mg base (L2.CX P w) 4 fa fd ["_law_script"] (spF K mg 1 f_law) := by
  obtain ⟨a_is_name, fd_is_name, m_is_name, F_is_name⟩ := D_is_name.ex
  obtain ⟨a_law_box, fd_law_box, m_law_box, F_law_box⟩ := D_law_box.ex
  obtain ⟨a_law_take, fd_law_take, m_law_take, F_law_take⟩ := D_law_take.ex
  obtain ⟨a_law_taken, fd_law_taken, m_law_taken, F_law_taken⟩ := D_law_taken.ex
  obtain ⟨a_law_name, fd_law_name, m_law_name, F_law_name⟩ := D_law_name.ex
  obtain ⟨a_law_other, fd_law_other, m_law_other, F_law_other⟩ := D_law_other.ex
  obtain ⟨a_law_due, fd_law_due, m_law_due, F_law_due⟩ := D_law_due.ex
  obtain ⟨a_law_right, fd_law_right, m_law_right, F_law_right⟩ := D_law_right.ex
  obtain ⟨a_law, fd_law, m_law, F_law⟩ := D_law.ex
  have b_is_name := F_is_name.binds (ps := ["text"]) fun _ _ _ _ _ _ us hl => match us, hl with | [_], _ => rfl
  have C_is_name : ∀ base : Heap, Callee P w K mg base "is_name" 1 1 [] f_is_name := fun base => ⟨a_is_name, fd_is_name, _, [], [], ok_is_name B F_is_name, m_is_name, F_is_name.kp, b_is_name, .nil, fun _ => .nil⟩
  have b_law_box := F_law_box.binds (ps := ["_law_script", "_law_k"]) fun _ _ _ _ _ _ us hl => match us, hl with | [_, _], _ => rfl
  have C_law_box : ∀ base : Heap, Callee P w K mg base "_law_box" 1 2 [] f_law_box := fun base => ⟨a_law_box, fd_law_box, _, [], [], ok_law_box B F_law_box, m_law_box, F_law_box.kp, b_law_box, .nil, fun _ => .nil⟩
  have b_law_take := F_law_take.binds (ps := ["_law_box_here", "_law_many"]) fun _ _ _ _ _ _ us hl => match us, hl with | [_, _], _ => rfl
  have C_law_take : ∀ base : Heap, Callee P w K mg base "_law_take" 1 2 [] f_law_take := fun base => ⟨a_law_take, fd_law_take, _, [], [], ok_law_take B F_law_take, m_law_take, F_law_take.kp, b_law_take, .nil, fun _ => .nil⟩
  have b_law_taken := F_law_taken.binds (ps := []) fun _ _ _ _ _ _ us hl => match us, hl with | [], _ => rfl
  have C_law_taken : ∀ base : Heap, Callee P w K mg base "_law_taken" 1 0 [] f_law_taken := fun base => ⟨a_law_taken, fd_law_taken, _, [], [], ok_law_taken B F_law_taken, m_law_taken, F_law_taken.kp, b_law_taken, .nil, fun _ => .nil⟩
  have b_law_name := F_law_name.binds (ps := ["_law_box_here"]) fun _ _ _ _ _ _ us hl => match us, hl with | [_], _ => rfl
  have C_law_name : ∀ base : Heap, Callee P w K mg base "_law_name" 2 1 [] f_law_name := fun base => ⟨a_law_name, fd_law_name, _, [], [], ok_law_name B (C_law_taken base) (C_law_take base) F_law_name, m_law_name, F_law_name.kp, b_law_name, .nil, fun _ => .nil⟩
  have b_law_other := F_law_other.binds (ps := ["_law_box_here", "_law_text"]) fun _ _ _ _ _ _ us hl => match us, hl with | [_, _], _ => rfl
  have C_law_other : ∀ base : Heap, Callee P w K mg base "_law_other" 2 2 [] f_law_other := fun base => ⟨a_law_other, fd_law_other, _, [], [], ok_law_other B (C_law_take base) F_law_other, m_law_other, F_law_other.kp, b_law_other, .nil, fun _ => .nil⟩
  have b_law_due := F_law_due.binds (ps := ["_law_text"]) fun _ _ _ _ _ _ us hl => match us, hl with | [_], _ => rfl
  have C_law_due : ∀ base : Heap, Callee P w K mg base "_law_due" 2 1 [] f_law_due := fun base => ⟨a_law_due, fd_law_due, _, [], [], ok_law_due B (C_law_taken base) F_law_due, m_law_due, F_law_due.kp, b_law_due, .nil, fun _ => .nil⟩
  have b_law_right := F_law_right.binds (ps := ["_law_text"]) fun _ _ _ _ _ _ us hl => match us, hl with | [_], _ => rfl
  have C_law_right : ∀ base : Heap, Callee P w K mg base "_law_right" 3 1 [] f_law_right := fun base => ⟨a_law_right, fd_law_right, _, [], [], ok_law_right B (C_law_due base) (C_is_name base) F_law_right, m_law_right, F_law_right.kp, b_law_right, .nil, fun _ => .nil⟩
  have ea := hfa.symm.trans m_law
  cases ea
  have hF : ∀ base : Heap, FnOk P w K mg base (L2.CX P w) 4 fa fd_law ["_law_script"] (spF K mg 1 f_law) := fun base => ok_law B (C_law_right base) (C_law_take base) (C_law_other base) (C_law_taken base) (C_law_name base) (C_law_box base) F_law
  refine ⟨fd_law, ?_, hF⟩
  obtain ⟨oc, od, kV, doc, pm, an, cdv, ct, osl, rfl, lk, hcd⟩ := F_law.ex
  exact fun s v => .of_eq rfl
end Lawk09

open PySem PySem.W PyProof.Rows
set_option maxRecDepth 100000 in
set_option maxHeartbeats 0 in
theorem PySem.Challenge.cw_unsaidways_k09_names_holds : PySem.Challenge.rw_unsaidways_k09_names.Holds := by
  w_on; o_law; k_head; (case hw => w_witness2)
  k_fill
  refine Z.zwalk (l := PySem.Challenge.rw_unsaidways_k09_names) (x := "_law_script") 4 rfl rfl ⟨rfl, by decide, by decide⟩ Lawk09.law_true (fun w h Y => PySem.W.kIn_of Y) ?F
  case F =>
    intro w mg fa h KX G hmg
    refine' Lawk09.all_ok hmg ⟨PySem.W.mg_none_of KX G ?n_all, PySem.W.mg_none_of KX G ?n_bool, PySem.W.mg_none_of KX G ?n_isinstance, PySem.W.mg_none_of KX G ?n_len, PySem.W.mg_none_of KX G ?n_max, PySem.W.mg_none_of KX G ?n_min, PySem.W.mg_none_of KX G ?n_range, Z.gl_str KX G ?g_LETTERS, Z.gl_int KX G ?g_LONGEST, Z.gl_tup KX G ?g_TAKEN ?l_TAKEN ?z_TAKEN ?e_TAKEN⟩ (Z.defAt KX G ?a_is_name ?l_is_name ?c_is_name ?k_is_name) (Z.defAt KX G ?a_law_box ?l_law_box ?c_law_box ?k_law_box) (Z.defAt KX G ?a_law_take ?l_law_take ?c_law_take ?k_law_take) (Z.defAt KX G ?a_law_taken ?l_law_taken ?c_law_taken ?k_law_taken) (Z.defAt KX G ?a_law_name ?l_law_name ?c_law_name ?k_law_name) (Z.defAt KX G ?a_law_other ?l_law_other ?c_law_other ?k_law_other) (Z.defAt KX G ?a_law_due ?l_law_due ?c_law_due ?k_law_due) (Z.defAt KX G ?a_law_right ?l_law_right ?c_law_right ?k_law_right) (Z.defAt KX G ?a_law ?l_law ?c_law ?k_law)
    case n_all => k_is
    case n_bool => k_is
    case n_isinstance => k_is
    case n_len => k_is
    case n_max => k_is
    case n_min => k_is
    case n_range => k_is
    case g_LETTERS => k_is
    case g_LONGEST => k_is
    case g_TAKEN => k_is
    case l_TAKEN => k_is
    case z_TAKEN => decide +kernel
    case e_TAKEN => rfl
    case a_is_name => k_is
    case l_is_name => k_is
    case c_is_name => k_is
    case k_is_name => k_is
    case a_law_box => k_is
    case l_law_box => k_is
    case c_law_box => k_is
    case k_law_box => k_is
    case a_law_take => k_is
    case l_law_take => k_is
    case c_law_take => k_is
    case k_law_take => k_is
    case a_law_taken => k_is
    case l_law_taken => k_is
    case c_law_taken => k_is
    case k_law_taken => k_is
    case a_law_name => k_is
    case l_law_name => k_is
    case c_law_name => k_is
    case k_law_name => k_is
    case a_law_other => k_is
    case l_law_other => k_is
    case c_law_other => k_is
    case k_law_other => k_is
    case a_law_due => k_is
    case l_law_due => k_is
    case c_law_due => k_is
    case k_law_due => k_is
    case a_law_right => k_is
    case l_law_right => k_is
    case c_law_right => k_is
    case k_law_right => k_is
    case a_law => k_is
    case l_law => k_is
    case c_law => k_is
    case k_law => k_is
#print axioms PySem.Challenge.cw_unsaidways_k09_names_holds

