import PyProof.Rows.All
import HandS.Wide
import HandS.ForMost
import HandS.ForExc
import HandS.TupAny
import HandS.IsInst
import HandS.Conv
import Wide.All
import OpenK.AllK
import Wide.FinOn
import PyProof.StrOps2
import HandS.Strs
import HandS.Replace
import HandS.SetFor
import HandS.DictTup
import HandS.Small
import KE.KDictPairs
import HandS.Deep
import HandS.Style
import HandS.Flow
import KE.BitLaws
import KE.GoesEnum
import HandS.More
import HandS.Zip
import HandS.TryOnly
import HandS.Defaults
import HandS.TupSets
import KE.KDictZip
import PyProof.EnumStmt
import HandS.MapObj
import HandS.ExcInit
import HandS.ExcOwn
import HandS.ExcField
import HandS.ExcIs
import HandS.ExcValue
import HandS.ClsMeth
import HandS.TupLe
import PyProof.WalksMore
import HandS.SetKeys
import PyProof.ReprRoads
import KE.KDictLaws
import HandS.Text
import PySem.Challenge.RW_unsaidways_k16_books_let_by_and_refused
set_option Elab.async false
set_option linter.all false
set_option maxRecDepth 100000
set_option maxHeartbeats 4000000
namespace Z
open PySem PySem.Spec PyProof.Rows L2
/-- a tuple of texts alone: such a one is looked through by .index, so more is known of it -/
def idxS (ds : List PyData) : Bool := !ds.isEmpty && ds.all fun d => match d with
  | .str _ => true
  | _ => false
mutual
/-- data as it lies: lists and tuples of ours -/
inductive Dp (K : PySem.W.Frag) (H : Hp) : V → PyData → Prop
  | non : Dp K H .non .none
  | bl (b : Bool) : Dp K H (.bl b) (.bool b)
  | int (i : Int) : Dp K H (.int i) (.int i)
  | str (x : Str) : Dp K H (.str x) (.str x)
  | lst {a : Addr} {xs : List V} {ds : List PyData} : H a = some (.lst xs) → DpAll K H xs ds → Dp K H (.ref a) (.list ds)
  | tup {a : Addr} {xs : List V} {ds : List PyData} : H a = some (.tup xs) → idxS ds = false → DpAll K H xs ds → Dp K H (.ref a) (.tuple ds)
  | ftup {a : Addr} {o : Obj} {xs : List V} {ds : List PyData} : H a = some (.frz o (.tup xs)) → o.dict = none → idxS ds = true → DpAll K H xs ds → Dp K H (.ref a) (.tuple ds)
inductive DpAll (K : PySem.W.Frag) (H : Hp) : List V → List PyData → Prop
  | nil : DpAll K H [] []
  | cons {v : V} {vs : List V} {d : PyData} {ds : List PyData} : Dp K H v d → DpAll K H vs ds → DpAll K H (v :: vs) (d :: ds)
end
mutual
theorem dpTo {K : PySem.W.Frag} {H : Hp} : ∀ {v : V} {x : PyData}, Dp K H v x → L2.Dp K H v x
  | _, _, .non => .non
  | _, _, .bl b => .bl b
  | _, _, .int i => .int i
  | _, _, .str x => .str x
  | _, _, .lst h t => .lst (SqL.of h) (dpAllTo t)
  | _, _, .tup h _ t => .tup (SqT.of h) (dpAllTo t)
  | _, _, .ftup h _ _ t => .tup (.inl (.inr ⟨_, h⟩)) (dpAllTo t)
theorem dpAllTo {K : PySem.W.Frag} {H : Hp} : ∀ {v : List V} {x : List PyData}, DpAll K H v x → L2.DpAll K H v x
  | _, _, .nil => .nil
  | _, _, .cons h t => .cons (dpTo h) (dpAllTo t)
end
theorem dpTup {K : PySem.W.Frag} {H : Hp} {v : V} {ds : List PyData} (h : Dp K H v (.tuple ds)) : ∃ a vs, v = .ref a ∧ SqT K H a vs ∧ DpAll K H vs ds := by
  cases h with
  | tup h _ t => exact ⟨_, _, rfl, SqT.of h, t⟩
  | ftup h _ _ t => exact ⟨_, _, rfl, .inl (.inr ⟨_, h⟩), t⟩
/-- a value with what it owns; gL, gT: a list, a tuple of another's, to be looked at -/
inductive O where
  | d (x : PyData)
  | gL (ds : List PyData)
  | gT (ds : List PyData)
  | lst (xs : List O)
  | tup (xs : List O)
  | dK (kvs : List (Key × O))
  | dT (kvs : List (List Key × O))
  | ins (c : Str) (fs : List (Str × O))
  | gD (kvs : List (List Key × PyData))
  | gK (kvs : List (Key × PyData))
  | pin (u : HO)
  | fr (o : O)
  | mem (g : List Key → Option PyData)
  | hole (a : Addr)
  | jk
  | exc (c : Str) (fs : List (Str × PyData))
/-- an exception that was caught, at a -/
def exH (a : Addr) (cls : Value) (d : Option Addr) : HO := .ext fun h => ∃ (oe : Obj) (vs : Array Value), h.get? a = some oe ∧ Zc cls d oe ∧ oe.data = .fields vs
/-- its fields -/
def XdF (K : PySem.W.Frag) (H : Hp) (d : Option Addr) (fs : List (Str × PyData)) : Prop := (fs = [] ∧ d = none) ∨ ∃ (dd : Addr) (fvs : List (Str × V)), d = some dd ∧ H dd = some (.xd fvs) ∧ fvs.map (·.1) = fs.map (·.1) ∧ DpAll K H (fvs.map (·.2)) (fs.map (·.2))
/-- the same keys, each once -/
def Keq {α : Type} (a b : List α) : Prop := a = b ∧ b.Nodup
/-- no data by itself -/
def O.nd : O → Bool
  | .d _ => false
  | .fr _ => false
  | _ => true
/-- what stands still: objects that do not change, and dicts that only take in what a function tells -/
structure Fz where
  h : Hp
  m : Addr → Option (List Key → Option PyData)
structure Fz.le (F F' : Fz) : Prop where
  h : Same F.h F'.h
  m : ∀ a g, F.m a = some g → F'.m a = some g
theorem Fz.le.refl (F : Fz) : F.le F := ⟨Same.refl _, fun _ _ h => h⟩
/-- a memo tells of few keys -/
def FinG (g : List Key → Option PyData) : Prop := ∃ dom : List (List Key), dom.length < 16777216 ∧ ∀ k, (g k).isSome = true → k ∈ dom
structure MemAt (K : PySem.W.Frag) (Hf : Hp) (kvs : List (List Key × V)) (g : List Key → Option PyData) : Prop where
  nd : (kvs.map (·.1)).Nodup
  fin : FinG g
  val : ∀ p ∈ kvs, ∃ x, g p.1 = some x ∧ Dp K Hf p.2 x
structure Fz.on (K : PySem.W.Frag) (F : Fz) (H : Hp) : Prop where
  same : Same F.h H
  mem : ∀ a g, F.m a = some g → F.h a = none ∧ ∃ kvs, H a = some (.dT kvs) ∧ MemAt K F.h kvs g
def Fz.no (F : Fz) (a : Addr) : Prop := F.h a = none ∧ F.m a = none
mutual
inductive Ow (K : PySem.W.Frag) (mg : Str → Option Value) (F : Fz) : Hp → V → O → List Addr → Prop
  | d {H : Hp} {v : V} {x : PyData} : Dp K F.h v x → Ow K mg F H v (.d x) []
  | gL {H : Hp} {a : Addr} {vs : List V} {ds : List PyData} : SqL K F.h a vs → DpAll K F.h vs ds → Ow K mg F H (.ref a) (.gL ds) []
  | gT {H : Hp} {a : Addr} {vs : List V} {ds : List PyData} : SqT K F.h a vs → DpAll K F.h vs ds → Ow K mg F H (.ref a) (.gT ds) []
  | pin {H : Hp} {a : Addr} {u : HO} : F.h a = some u → Ow K mg F H (.ref a) (.pin u) []
  | gD {H : Hp} {a : Addr} {o : Obj} {kvs : List (List Key × V)} {kds : List (List Key × PyData)} : F.h a = some (.frz o (.dT kvs)) → kvs.map (·.1) = kds.map (·.1) → DpAll K F.h (kvs.map (·.2)) (kds.map (·.2)) → Ow K mg F H (.ref a) (.gD kds) []
  | gK {H : Hp} {a : Addr} {o : Obj} {kvs : List (Key × V)} {kds : List (Key × PyData)} : F.h a = some (.frz o (.dK kvs)) → kvs.map (·.1) = kds.map (·.1) → DpAll K F.h (kvs.map (·.2)) (kds.map (·.2)) → Ow K mg F H (.ref a) (.gK kds) []
  | fr {H : Hp} {v : V} {o : O} {as : List Addr} : o.nd = true → Ow K mg F F.h v o as → Ow K mg F H v (.fr o) []
  | mem {H : Hp} {a : Addr} {g : List Key → Option PyData} : F.m a = some g → Ow K mg F H (.ref a) (.mem g) []
  | hole {H : Hp} {a : Addr} : Ow K mg F H (.ref a) (.hole a) []
  | jk {H : Hp} {a : Addr} : Ow K mg F H (.ref a) .jk []
  | exc {H : Hp} {a C : Addr} {c : Str} {d : Option Addr} {fs : List (Str × PyData)} : F.h a = some (exH a (.ref C) d) → mg c = some (.ref C) → XdF K F.h d fs → Ow K mg F H (.ref a) (.exc c fs) []
  | lst {H : Hp} {a : Addr} {vs : List V} {os : List O} {as : List Addr} : H a = some (.lst vs) → OwL K mg F H vs os as → Ow K mg F H (.ref a) (.lst os) (a :: as)
  | tup {H : Hp} {a : Addr} {vs : List V} {os : List O} {as : List Addr} : H a = some (.tup vs) → OwL K mg F H vs os as → Ow K mg F H (.ref a) (.tup os) (a :: as)
  | dK {H : Hp} {a : Addr} {kvs : List (Key × V)} {kos : List (Key × O)} {as : List Addr} : H a = some (.dK kvs) → Keq (kvs.map (·.1)) (kos.map (·.1)) → OwL K mg F H (kvs.map (·.2)) (kos.map (·.2)) as → Ow K mg F H (.ref a) (.dK kos) (a :: as)
  | dT {H : Hp} {a : Addr} {kvs : List (List Key × V)} {kos : List (List Key × O)} {as : List Addr} : H a = some (.dT kvs) → Keq (kvs.map (·.1)) (kos.map (·.1)) → OwL K mg F H (kvs.map (·.2)) (kos.map (·.2)) as → Ow K mg F H (.ref a) (.dT kos) (a :: as)
  | ins {H : Hp} {a C dx : Addr} {c : Str} {fvs : List (Str × V)} {fos : List (Str × O)} {as : List Addr} : H a = some (.ins C dx fvs) → mg c = some (.ref C) → fvs.map (·.1) = fos.map (·.1) → OwL K mg F H (fvs.map (·.2)) (fos.map (·.2)) as → Ow K mg F H (.ref a) (.ins c fos) (a :: as)
inductive OwL (K : PySem.W.Frag) (mg : Str → Option Value) (F : Fz) : Hp → List V → List O → List Addr → Prop
  | nil {H : Hp} : OwL K mg F H [] [] []
  | cons {H : Hp} {v : V} {o : O} {as bs : List Addr} {vs : List V} {os : List O} : Ow K mg F H v o as → OwL K mg F H vs os bs → OwL K mg F H (v :: vs) (o :: os) (as ++ bs)
end
section
variable {K : PySem.W.Frag} {mg : Str → Option Value} {Hf Hf' : Fz} {H H' : Hp}
theorem sameT {a : Addr} {xs : List V} (e : Same H H') (h : SqT K H a xs) : SqT K H' a xs := by
  rcases h with (h | ⟨o, h⟩) | h
  · exact .inl (.inl (e _ _ h))
  · exact .inl (.inr ⟨o, e _ _ h⟩)
  · exact .inr h
mutual
theorem dpMono (e : Same H H') : ∀ {v : V} {x : PyData}, Dp K H v x → Dp K H' v x
  | _, _, .non => .non
  | _, _, .bl b => .bl b
  | _, _, .int i => .int i
  | _, _, .str x => .str x
  | _, _, .lst h t => .lst (e _ _ h) (dpAllMono e t)
  | _, _, .tup h i t => .tup (e _ _ h) i (dpAllMono e t)
  | _, _, .ftup h i j t => .ftup (e _ _ h) i j (dpAllMono e t)
theorem dpAllMono (e : Same H H') : ∀ {v : List V} {x : List PyData}, DpAll K H v x → DpAll K H' v x
  | _, _, .nil => .nil
  | _, _, .cons h t => .cons (dpMono e h) (dpAllMono e t)
end
theorem xdMono {d : Option Addr} {fs : List (Str × PyData)} (e : Same H H') (h : XdF K H d fs) : XdF K H' d fs := by
  rcases h with h | ⟨dd, fvs, h1, h2, h3, h4⟩
  · exact .inl h
  · exact .inr ⟨dd, fvs, h1, e _ _ h2, h3, dpAllMono e h4⟩
mutual
theorem owThere : ∀ {v : V} {o : O} {as : List Addr}, Ow K mg Hf H v o as → ∀ a ∈ as, ∃ u, H a = some u
  | _, _, _, .d _ => fun a h => nomatch h
  | _, _, _, .gL _ _ => fun a h => nomatch h
  | _, _, _, .gT _ _ => fun a h => nomatch h
  | _, _, _, .gD _ _ _ => fun a h => nomatch h
  | _, _, _, .gK _ _ _ => fun a h => nomatch h
  | _, _, _, .pin _ => fun a h => nomatch h
  | _, _, _, .fr _ _ => fun a h => nomatch h
  | _, _, _, .mem _ => fun a h => nomatch h
  | _, _, _, .hole => fun a h => nomatch h
  | _, _, _, .jk => fun a h => nomatch h
  | _, _, _, .exc _ _ _ => fun a h => nomatch h
  | _, _, _, .lst h t => fun a m => by
    rcases List.mem_cons.mp m with e | m
    · exact ⟨_, e ▸ h⟩
    · exact owLThere t a m
  | _, _, _, .tup h t => fun a m => by
    rcases List.mem_cons.mp m with e | m
    · exact ⟨_, e ▸ h⟩
    · exact owLThere t a m
  | _, _, _, .dK h _ t => fun a m => by
    rcases List.mem_cons.mp m with e | m
    · exact ⟨_, e ▸ h⟩
    · exact owLThere t a m
  | _, _, _, .dT h _ t => fun a m => by
    rcases List.mem_cons.mp m with e | m
    · exact ⟨_, e ▸ h⟩
    · exact owLThere t a m
  | _, _, _, .ins h _ _ t => fun a m => by
    rcases List.mem_cons.mp m with e | m
    · exact ⟨_, e ▸ h⟩
    · exact owLThere t a m
theorem owLThere : ∀ {v : List V} {o : List O} {as : List Addr}, OwL K mg Hf H v o as → ∀ a ∈ as, ∃ u, H a = some u
  | _, _, _, .nil => fun a h => nomatch h
  | _, _, _, .cons h t => fun a m => by
    rcases List.mem_append.mp m with m | m
    · exact owThere h a m
    · exact owLThere t a m
end
mutual
theorem owMono (e : Hf.le Hf') : ∀ {H H' : Hp} {v : V} {o : O} {as : List Addr}, Ow K mg Hf H v o as → (∀ a ∈ as, H' a = H a) → Ow K mg Hf' H' v o as
  | _, _, _, _, _, .d h, _ => .d (dpMono e.h h)
  | _, _, _, _, _, .gL h t, _ => .gL (e.h.seq h) (dpAllMono e.h t)
  | _, _, _, _, _, .gT h t, _ => .gT (sameT e.h h) (dpAllMono e.h t)
  | _, _, _, _, _, .gD h k t, _ => .gD (e.h _ _ h) k (dpAllMono e.h t)
  | _, _, _, _, _, .gK h k t, _ => .gK (e.h _ _ h) k (dpAllMono e.h t)
  | _, _, _, _, _, .pin h, _ => .pin (e.h _ _ h)
  | _, _, _, _, _, .fr n h, _ => .fr n (owMono e h fun a m => by obtain ⟨u, q⟩ := owThere h a m; exact (e.h _ _ q).trans q.symm)
  | _, _, _, _, _, .mem h, _ => .mem (e.m _ _ h)
  | _, _, _, _, _, .hole, _ => .hole
  | _, _, _, _, _, .jk, _ => .jk
  | _, _, _, _, _, .exc h c t, _ => .exc (e.h _ _ h) c (xdMono e.h t)
  | _, _, _, _, _, .lst h t, f => .lst ((f _ List.mem_cons_self).trans h) (owLMono e t fun a m => f a (List.mem_cons_of_mem _ m))
  | _, _, _, _, _, .tup h t, f => .tup ((f _ List.mem_cons_self).trans h) (owLMono e t fun a m => f a (List.mem_cons_of_mem _ m))
  | _, _, _, _, _, .dK h k t, f => .dK ((f _ List.mem_cons_self).trans h) k (owLMono e t fun a m => f a (List.mem_cons_of_mem _ m))
  | _, _, _, _, _, .dT h k t, f => .dT ((f _ List.mem_cons_self).trans h) k (owLMono e t fun a m => f a (List.mem_cons_of_mem _ m))
  | _, _, _, _, _, .ins h c k t, f => .ins ((f _ List.mem_cons_self).trans h) c k (owLMono e t fun a m => f a (List.mem_cons_of_mem _ m))
theorem owLMono (e : Hf.le Hf') : ∀ {H H' : Hp} {v : List V} {o : List O} {as : List Addr}, OwL K mg Hf H v o as → (∀ a ∈ as, H' a = H a) → OwL K mg Hf' H' v o as
  | _, _, _, _, _, .nil, _ => .nil
  | _, _, _, _, _, .cons h t, f => .cons (owMono e h fun a m => f a (List.mem_append_left _ m)) (owLMono e t fun a m => f a (List.mem_append_right _ m))
end
theorem owLLen : ∀ {vs : List V} {os : List O} {as : List Addr}, OwL K mg Hf H vs os as → vs.length = os.length
  | _, _, _, .nil => rfl
  | _, _, _, .cons _ t => by simp [owLLen t]
theorem owLApp : ∀ {vs : List V} {os : List O} {as : List Addr} {vs' : List V} {os' : List O} {as' : List Addr}, OwL K mg Hf H vs os as → OwL K mg Hf H vs' os' as' → OwL K mg Hf H (vs ++ vs') (os ++ os') (as ++ as')
  | _, _, _, _, _, _, .nil, s => s
  | _, _, _, _, _, _, .cons h t, s => by rw [List.append_assoc]; exact .cons h (owLApp t s)
theorem owLSplit : ∀ {vs : List V} {os : List O} {as : List Addr} {vs' : List V} {os' : List O}, vs.length = os.length → OwL K mg Hf H (vs ++ vs') (os ++ os') as → ∃ a1 a2, as = a1 ++ a2 ∧ OwL K mg Hf H vs os a1 ∧ OwL K mg Hf H vs' os' a2
  | [], [], as, vs', os', _, h => ⟨[], as, rfl, .nil, h⟩
  | v :: vs, o :: os, _, vs', os', e, h => by
    cases h with
    | cons h t =>
      obtain ⟨a1, a2, rfl, h1, h2⟩ := owLSplit (by simpa using e) t
      exact ⟨_ ++ a1, a2, by rw [List.append_assoc], .cons h h1, h2⟩
  | [], _ :: _, _, _, _, e, _ => by simp at e
  | _ :: _, [], _, _, _, e, _ => by simp at e
def frz (Hf : Fz) (H : Hp) (as : List Addr) : Fz := ⟨fun b => if b ∈ as then H b else Hf.h b, Hf.m⟩
theorem frzSame (s : Same Hf.h H) (as : List Addr) : Hf.le (frz Hf H as) := ⟨fun b o e => by
  show (if b ∈ as then H b else Hf.h b) = some o
  by_cases h : b ∈ as
  · rw [if_pos h]; exact s b o e
  · rw [if_neg h]; exact e, fun _ _ h => h⟩
theorem memMono {K : PySem.W.Frag} {Hf Hf' : Hp} {kvs : List (List Key × V)} {g : List Key → Option PyData} (s : Same Hf Hf') (h : MemAt K Hf kvs g) : MemAt K Hf' kvs g := ⟨h.nd, h.fin, fun p m => by
  obtain ⟨x, e, d⟩ := h.val p m
  exact ⟨x, e, dpMono s d⟩⟩
theorem frzIn (s : Hf.on K H) (as : List Addr) (hn : ∀ a ∈ as, Hf.m a = none) : (frz Hf H as).on K H := ⟨fun b o e => by
  have e : (if b ∈ as then H b else Hf.h b) = some o := e
  by_cases h : b ∈ as
  · rw [if_pos h] at e; exact e
  · rw [if_neg h] at e; exact s.same b o e, fun a g e => by
  have e : Hf.m a = some g := e
  obtain ⟨h1, kvs, h2, h3⟩ := s.mem a g e
  refine ⟨?_, kvs, h2, memMono (frzSame s.same as).h h3⟩
  show (if a ∈ as then H a else Hf.h a) = none
  rw [if_neg fun m => by rw [hn a m] at e; cases e]
  exact h1⟩
theorem frzMono (s : Same Hf.h H) {as bs : List Addr} (m : ∀ a ∈ as, a ∈ bs) : (frz Hf H as).le (frz Hf H bs) := ⟨fun b o e => by
  have e : (if b ∈ as then H b else Hf.h b) = some o := e
  show (if b ∈ bs then H b else Hf.h b) = some o
  by_cases h : b ∈ as
  · rw [if_pos h] at e; rw [if_pos (m b h)]; exact e
  · rw [if_neg h] at e
    by_cases h' : b ∈ bs
    · rw [if_pos h']; exact s b o e
    · rw [if_neg h']; exact e, fun _ _ h => h⟩
theorem frzOn (s : Same Hf.h H) (as : List Addr) : Same (frz Hf H as).h H := fun b o e => by
  have e : (if b ∈ as then H b else Hf.h b) = some o := e
  by_cases h : b ∈ as
  · rw [if_pos h] at e; exact e
  · rw [if_neg h] at e; exact s b o e
theorem frzAt {a : Addr} {as : List Addr} (m : a ∈ as) : (frz Hf H as).h a = H a := by
  show (if a ∈ as then H a else Hf.h a) = _
  rw [if_pos m]
theorem frzNot {a : Addr} {as : List Addr} (m : a ∉ as) (h : Hf.no a) : (frz Hf H as).no a := ⟨by
  show (if a ∈ as then H a else Hf.h a) = _
  rw [if_neg m]; exact h.1, h.2⟩
mutual
def O.fz : O → Option PyData
  | .d x => some x
  | .lst xs => match O.fzL xs with | some ds => some (.list ds) | none => none
  | .tup xs => match O.fzL xs with | some ds => if idxS ds = true then none else some (.tuple ds) | none => none
  | _ => none
def O.fzL : List O → Option (List PyData)
  | [] => some []
  | x :: xs => match O.fz x, O.fzL xs with | some y, some ys => some (y :: ys) | _, _ => none
end
mutual
theorem owFz (s : Same Hf.h H) : ∀ {v : V} {o : O} {as : List Addr} {x : PyData}, Ow K mg Hf H v o as → o.fz = some x → Dp K (frz Hf H as).h v x
  | _, _, _, x, .d h, e => by
    simp only [O.fz, Option.some.injEq] at e
    subst e
    exact dpMono (frzSame s _).h h
  | _, _, _, x, .lst (os := os) (as := as) h t, e => by
    simp only [O.fz] at e
    cases q : O.fzL os with
    | none => rw [q] at e; cases e
    | some ds =>
      rw [q] at e
      cases e
      refine .lst ?_ (dpAllMono (frzMono s fun a m => List.mem_cons_of_mem _ m).h (owLFz s t q))
      rw [frzAt List.mem_cons_self]
      exact h
  | _, _, _, x, .tup (os := os) (as := as) h t, e => by
    simp only [O.fz] at e
    cases q : O.fzL os with
    | none => rw [q] at e; cases e
    | some ds =>
      rw [q] at e
      simp only at e
      split at e
      · cases e
      rename_i hi
      cases e
      refine .tup ?_ (by simpa using hi) (dpAllMono (frzMono s fun a m => List.mem_cons_of_mem _ m).h (owLFz s t q))
      rw [frzAt List.mem_cons_self]
      exact h
  | _, _, _, x, .gL h t, e => by simp only [O.fz] at e; cases e
  | _, _, _, x, .gT h t, e => by simp only [O.fz] at e; cases e
  | _, _, _, x, .gD h k t, e => by simp only [O.fz] at e; cases e
  | _, _, _, x, .gK h k t, e => by simp only [O.fz] at e; cases e
  | _, _, _, x, .pin h, e => by simp only [O.fz] at e; cases e
  | _, _, _, x, .fr n h, e => by simp only [O.fz] at e; cases e
  | _, _, _, x, .mem h, e => by simp only [O.fz] at e; cases e
  | _, _, _, x, .hole, e => by simp only [O.fz] at e; cases e
  | _, _, _, x, .jk, e => by simp only [O.fz] at e; cases e
  | _, _, _, x, .exc _ _ _, e => by simp only [O.fz] at e; cases e
  | _, _, _, x, .dK h k t, e => by simp only [O.fz] at e; cases e
  | _, _, _, x, .dT h k t, e => by simp only [O.fz] at e; cases e
  | _, _, _, x, .ins h c k t, e => by simp only [O.fz] at e; cases e
theorem owLFz (s : Same Hf.h H) : ∀ {v : List V} {o : List O} {as : List Addr} {x : List PyData}, OwL K mg Hf H v o as → O.fzL o = some x → DpAll K (frz Hf H as).h v x
  | _, _, _, x, .nil, e => by
    simp only [O.fzL, Option.some.injEq] at e
    subst e
    exact .nil
  | _, _, _, x, .cons (o := o) (os := os) (as := as) (bs := bs) h t, e => by
    simp only [O.fzL] at e
    cases q1 : o.fz with
    | none => rw [q1] at e; simp at e
    | some d =>
      cases q2 : O.fzL os with
      | none => rw [q1, q2] at e; simp at e
      | some ds =>
        rw [q1, q2] at e
        cases e
        exact .cons (dpMono (frzMono s fun a m => List.mem_append_left _ m).h (owFz s h q1)) (dpAllMono (frzMono s fun a m => List.mem_append_right _ m).h (owLFz s t q2))
end
end
abbrev Roots := List (V × O)
/-- what is owned is no tuple of plain values alone -/
def NF (H : Hp) (a : Addr) : Prop := ∀ xs, H a = some (.tup xs) → ∃ b, V.ref b ∈ xs
structure Rel (K : PySem.W.Frag) (mg : Str → Option Value) (H : Hp) (Ex : List (Addr × HO)) (rs ws : Roots) : Prop where
  ex : ∃ (Hf : Fz) (as : List Addr), Hf.on K H ∧ (∀ e ∈ Ex, H e.1 = some e.2) ∧ OwL K mg Hf H (rs.map (·.1)) (rs.map (·.2)) as ∧ (Ex.map (·.1) ++ as).Nodup ∧ (∀ a ∈ Ex.map (·.1) ++ as, Hf.no a ∧ NF H a) ∧ ∀ p ∈ ws, ∃ bs, Ow K mg Hf H p.1 p.2 bs
instance {K : PySem.W.Frag} {F : Fz} {H : Hp} : CoeFun (F.on K H) (fun _ => ∀ b o, F.h b = some o → H b = some o) := ⟨fun s => s.same⟩
theorem Fz.on.seq {K : PySem.W.Frag} {F : Fz} {H : Hp} {a : Addr} {vs : List V} (s : F.on K H) (h : SqL K F.h a vs) : SqL K H a vs := s.same.seq h
theorem Fz.on.trans {K : PySem.W.Frag} {F : Fz} {H H' : Hp} (s : F.on K H) (e : Same H H') : F.on K H' := ⟨s.same.trans e, fun a g h => by
  obtain ⟨h1, kvs, h2, h3⟩ := s.mem a g h
  exact ⟨h1, kvs, e _ _ h2, h3⟩⟩
theorem Fz.on.free {K : PySem.W.Frag} {F : Fz} {H : Hp} {p : Addr} (s : F.on K H) (h : H p = none) : F.no p := ⟨s.same.free h, by
  cases q : F.m p with
  | none => rfl
  | some g =>
    obtain ⟨_, kvs, h2, _⟩ := s.mem p g q
    rw [h] at h2; cases h2⟩
theorem Fz.on.upd {K : PySem.W.Frag} {F : Fz} {H : Hp} {p : Addr} {o : HO} (s : F.on K H) (h : F.no p) : F.on K (upd H p o) := ⟨fun b u q => by
  rw [upd_ne (ne_of_none q h.1)]; exact s.same b u q, fun a g e => by
  obtain ⟨h1, kvs, h2, h3⟩ := s.mem a g e
  refine ⟨h1, kvs, ?_, h3⟩
  rw [upd_ne fun z => by rw [z, h.2] at e; cases e]
  exact h2⟩
section
variable {K : PySem.W.Frag} {mg : Str → Option Value} {H H' : Hp} {Ex : List (Addr × HO)} {rs rs' ws ws' : Roots}
theorem owLPerm {Hf : Fz} {l l' : Roots} (p : l.Perm l') : ∀ {as : List Addr}, OwL K mg Hf H (l.map (·.1)) (l.map (·.2)) as → ∃ as', OwL K mg Hf H (l'.map (·.1)) (l'.map (·.2)) as' ∧ as.Perm as' := by
  induction p with
  | nil => intro as h; exact ⟨as, h, .refl _⟩
  | cons x p ih =>
    intro as h
    cases h with
    | cons h t =>
      obtain ⟨as', t', q⟩ := ih t
      exact ⟨_, .cons h t', q.append_left _⟩
  | swap x y l =>
    intro as h
    cases h with
    | cons h t =>
      cases t with
      | cons h2 t2 =>
        refine ⟨_, .cons h2 (.cons h t2), ?_⟩
        rw [← List.append_assoc, ← List.append_assoc]
        exact List.perm_append_comm.append_right _
  | trans p q ih1 ih2 =>
    intro as h
    obtain ⟨a1, h1, q1⟩ := ih1 h
    obtain ⟨a2, h2, q2⟩ := ih2 h1
    exact ⟨a2, h2, q1.trans q2⟩
theorem Rel.perm (r : Rel K mg H Ex rs ws) (p : rs.Perm rs') : Rel K mg H Ex rs' ws := by
  obtain ⟨Hf, as, s, he, ho, nd, hn, hw⟩ := r.ex
  obtain ⟨as', ho', q⟩ := owLPerm p ho
  have q2 : (Ex.map (·.1) ++ as).Perm (Ex.map (·.1) ++ as') := q.append_left _
  exact ⟨Hf, as', s, he, ho', q2.nodup_iff.mp nd, fun a m => hn a (q2.mem_iff.mpr m), hw⟩
theorem Rel.views (r : Rel K mg H Ex rs ws) (m : ∀ p ∈ ws', p ∈ ws) : Rel K mg H Ex rs ws' := by
  obtain ⟨Hf, as, s, he, ho, nd, hn, hw⟩ := r.ex
  exact ⟨Hf, as, s, he, ho, nd, hn, fun p q => hw p (m p q)⟩
theorem Rel.noviews (r : Rel K mg H Ex rs ws) : Rel K mg H Ex rs [] := r.views fun _ h => nomatch h
/-- a root is seen -/
theorem Rel.see {p : V × O} (r : Rel K mg H Ex (p :: rs) ws) : Rel K mg H Ex (p :: rs) (p :: ws) := by
  obtain ⟨Hf, as, s, he, ho, nd, hn, hw⟩ := r.ex
  refine ⟨Hf, as, s, he, ho, nd, hn, fun q m => ?_⟩
  rcases List.mem_cons.mp m with e | m
  · subst e
    cases ho with
    | cons h t => exact ⟨_, h⟩
  · exact hw q m
theorem Rel.drop {p : V × O} (r : Rel K mg H Ex (p :: rs) ws) : Rel K mg H Ex rs ws := by
  obtain ⟨Hf, as, s, he, ho, nd, hn, hw⟩ := r.ex
  cases ho with
  | cons h t =>
    rename_i a1 a2
    have sub : (Ex.map (·.1) ++ a2).Sublist (Ex.map (·.1) ++ (a1 ++ a2)) := (List.sublist_append_right a1 a2).append_left _
    exact ⟨Hf, a2, s, he, t, nd.sublist sub, fun a m => hn a (sub.subset m), hw⟩
theorem Rel.toView {p : V × O} (r : Rel K mg H Ex (p :: rs) ws) : Rel K mg H Ex rs (p :: ws) := r.see.drop
theorem Rel.dropL (l : Roots) (r : Rel K mg H Ex (l ++ rs) ws) : Rel K mg H Ex rs ws := by
  induction l with
  | nil => exact r
  | cons p l ih => exact ih r.drop
/-- data may be had twice -/
theorem Rel.dup {v : V} {x : PyData} (r : Rel K mg H Ex ((v, .d x) :: rs) ws) : Rel K mg H Ex ((v, .d x) :: (v, .d x) :: rs) ws := by
  obtain ⟨Hf, as, s, he, ho, nd, hn, hw⟩ := r.ex
  cases ho with
  | cons h t =>
    cases h with
    | d h => exact ⟨Hf, _, s, he, .cons (.d h) (.cons (.d h) t), nd, hn, hw⟩
/-- all that stood stands -/
theorem Rel.same (r : Rel K mg H Ex rs ws) (e : Same H H') : Rel K mg H' Ex rs ws := by
  obtain ⟨Hf, as, s, he, ho, nd, hn, hw⟩ := r.ex
  have st : ∀ {a : Addr}, (∃ u, H a = some u) → H' a = H a := fun ⟨u, q⟩ => (e _ _ q).trans q.symm
  have nf : ∀ {a : Addr}, (∃ u, H a = some u) → NF H a → NF H' a := fun h q xs e => q xs ((st h).symm.trans e)
  refine ⟨Hf, as, s.trans e, fun p m => e _ _ (he p m), owLMono (Fz.le.refl _) ho fun a m => st (owLThere ho a m), nd, fun a m => ⟨(hn a m).1, nf ?_ (hn a m).2⟩, fun p m => ?_⟩
  · rcases List.mem_append.mp m with m | m
    · obtain ⟨p, mp, rfl⟩ := List.mem_map.mp m
      exact ⟨_, he p mp⟩
    · exact owLThere ho a m
  obtain ⟨bs, h⟩ := hw p m
  exact ⟨bs, owMono (Fz.le.refl _) h fun a m => st (owThere h a m)⟩
theorem sameNew {p : Addr} (h : H p = none) (o : HO) : Same H (upd H p o) := fun b u q => by rw [upd_ne (ne_of_none q h)]; exact q
/-- a new object -/
theorem Rel.new {p : Addr} (o : HO) (r : Rel K mg H Ex rs ws) (h : H p = none) (hnf : ∀ xs, o = .tup xs → ∃ b, V.ref b ∈ xs := by intro _ h; cases h) : Rel K mg (upd H p o) ((p, o) :: Ex) rs ws := by
  obtain ⟨Hf, as, s, he, ho, nd, hn, hw⟩ := (r.same (sameNew h o)).ex
  obtain ⟨Hf0, as0, s0, he0, ho0, nd0, hn0, hw0⟩ := r.ex
  have st : ∀ {a : Addr}, (∃ u, H a = some u) → (upd H p o) a = H a := fun ⟨u, q⟩ => (sameNew h o _ _ q).trans q.symm
  have pe : ∀ {a : Addr}, (∃ u, H a = some u) → a ≠ p := fun ⟨u, q⟩ z => by rw [z, h] at q; cases q
  refine ⟨Hf0, as0, s0.trans (sameNew h o), fun e m => ?_, owLMono (Fz.le.refl _) ho0 fun a m => st (owLThere ho0 a m), ?_, fun a m => ?_, fun p m => ?_⟩
  · rcases List.mem_cons.mp m with e' | m
    · subst e'; exact upd_same
    · exact sameNew h o _ _ (he0 e m)
  · refine List.nodup_cons.mpr ⟨fun m => ?_, nd0⟩
    rcases List.mem_append.mp m with m | m
    · obtain ⟨e, me, q⟩ := List.mem_map.mp m
      exact pe ⟨_, he0 e me⟩ q
    · exact pe (owLThere ho0 _ m) rfl
  · rcases List.mem_cons.mp m with e' | m
    · subst e'
      refine ⟨s0.free h, fun xs e => hnf xs ?_⟩
      rw [upd_same] at e
      exact Option.some.inj e
    · refine ⟨(hn0 a m).1, fun xs e => (hn0 a m).2 xs ?_⟩
      have : ∃ u, H a = some u := by
        rcases List.mem_append.mp m with m | m
        · obtain ⟨p, mp, rfl⟩ := List.mem_map.mp m
          exact ⟨_, he0 p mp⟩
        · exact owLThere ho0 a m
      exact (st this).symm.trans e
  · obtain ⟨bs, h⟩ := hw0 p m
    exact ⟨bs, owMono (Fz.le.refl _) h fun a m => st (owThere h a m)⟩
/-- an object of ours is written -/
theorem Rel.write {p : Addr} {o : HO} (o' : HO) (r : Rel K mg H ((p, o) :: Ex) rs ws) (hnf : ∀ xs, o' = .tup xs → ∃ b, V.ref b ∈ xs := by intro _ h; cases h) : Rel K mg (upd H p o') ((p, o') :: Ex) rs [] := by
  obtain ⟨Hf, as, s, he, ho, nd, hn, hw⟩ := r.ex
  have nd' := List.nodup_cons.mp nd
  have hp : Hf.no p := (hn p List.mem_cons_self).1
  refine ⟨Hf, as, s.upd hp, fun e m => ?_, owLMono (Fz.le.refl _) ho fun a m => upd_ne fun z => nd'.1 (z ▸ List.mem_append_right _ m), nd, fun a m => ?_, fun _ h => nomatch h⟩
  · rcases List.mem_cons.mp m with e' | m
    · subst e'; exact upd_same
    · rw [upd_ne fun z => nd'.1 (List.mem_append_left _ (List.mem_map.mpr ⟨e, m, z⟩))]
      exact he e (List.mem_cons_of_mem _ m)
  · refine ⟨(hn a m).1, fun xs e => ?_⟩
    by_cases z : a = p
    · subst z
      rw [upd_same] at e
      exact hnf xs (Option.some.inj e)
    · rw [upd_ne z] at e
      exact (hn a m).2 xs e
theorem zipMap {α β : Type} : ∀ {l : List α} {m : List β}, l.length = m.length → (l.zip m).map (·.1) = l ∧ (l.zip m).map (·.2) = m
  | [], [], _ => ⟨rfl, rfl⟩
  | a :: l, b :: m, h => by
    obtain ⟨h1, h2⟩ := zipMap (l := l) (m := m) (by simpa using h)
    exact ⟨by simp [h1], by simp [h2]⟩
  | [], _ :: _, h => by simp at h
  | _ :: _, [], h => by simp at h
theorem nodMid {A : List Addr} {a : Addr} {B : List Addr} : (A ++ a :: B).Nodup ↔ (a :: A ++ B).Nodup := (List.perm_middle).nodup_iff
/-- what is to be opened and shut: an owned object and what it holds -/
inductive Opn (mg : Str → Option Value) : O → HO → List V → List O → Prop
  | lst {vs : List V} {os : List O} : Opn mg (.lst os) (.lst vs) vs os
  | tup {vs : List V} {os : List O} : Opn mg (.tup os) (.tup vs) vs os
  | dK {kvs : List (Key × V)} {kos : List (Key × O)} : Keq (kvs.map (·.1)) (kos.map (·.1)) → Opn mg (.dK kos) (.dK kvs) (kvs.map (·.2)) (kos.map (·.2))
  | dT {kvs : List (List Key × V)} {kos : List (List Key × O)} : Keq (kvs.map (·.1)) (kos.map (·.1)) → Opn mg (.dT kos) (.dT kvs) (kvs.map (·.2)) (kos.map (·.2))
  | ins {C dx : Addr} {c : Str} {fvs : List (Str × V)} {fos : List (Str × O)} : mg c = some (.ref C) → fvs.map (·.1) = fos.map (·.1) → Opn mg (.ins c fos) (.ins C dx fvs) (fvs.map (·.2)) (fos.map (·.2))
def O.isG : O → Bool
  | .d _ => true
  | .gL _ => true
  | .gT _ => true
  | .gD _ => true
  | .gK _ => true
  | .pin _ => true
  | .fr _ => true
  | .mem _ => true
  | .hole _ => true
  | .jk => true
  | .exc _ _ => true
  | _ => false
theorem owOpn {Hf : Fz} {v : V} {o : O} {as : List Addr} (h : Ow K mg Hf H v o as) (hn : o.isG = false) : ∃ a bs ho vs os, v = .ref a ∧ as = a :: bs ∧ H a = some ho ∧ Opn mg o ho vs os ∧ OwL K mg Hf H vs os bs := by
  cases h with
  | d _ => cases hn
  | gL _ _ => cases hn
  | gT _ _ => cases hn
  | gD _ _ _ => cases hn
  | gK _ _ _ => cases hn
  | pin _ => cases hn
  | fr _ _ => cases hn
  | mem _ => cases hn
  | hole => cases hn
  | jk => cases hn
  | exc _ _ _ => cases hn
  | lst h t => exact ⟨_, _, _, _, _, rfl, rfl, h, .lst, t⟩
  | tup h t => exact ⟨_, _, _, _, _, rfl, rfl, h, .tup, t⟩
  | dK h k t => exact ⟨_, _, _, _, _, rfl, rfl, h, .dK k, t⟩
  | dT h k t => exact ⟨_, _, _, _, _, rfl, rfl, h, .dT k, t⟩
  | ins h c k t => exact ⟨_, _, _, _, _, rfl, rfl, h, .ins c k, t⟩
theorem Opn.ow {Hf : Fz} {a : Addr} {o : O} {ho : HO} {vs : List V} {os : List O} {bs : List Addr} (p : Opn mg o ho vs os) (h : H a = some ho) (t : OwL K mg Hf H vs os bs) : Ow K mg Hf H (.ref a) o (a :: bs) := by
  cases p with
  | lst => exact .lst h t
  | tup => exact .tup h t
  | dK k => exact .dK h k t
  | dT k => exact .dT h k t
  | ins c k => exact .ins h c k t
theorem Opn.len {o : O} {ho : HO} {vs : List V} {os : List O} (p : Opn mg o ho vs os) (l : vs.length = os.length) : (vs.zip os).map (·.1) = vs ∧ (vs.zip os).map (·.2) = os := zipMap l
theorem Rel.opn {v : V} {o : O} (r : Rel K mg H Ex ((v, o) :: rs) ws) (hn : o.isG = false) : ∃ a ho vs os, v = .ref a ∧ H a = some ho ∧ Opn mg o ho vs os ∧ vs.length = os.length ∧ Rel K mg H ((a, ho) :: Ex) (vs.zip os ++ rs) ws := by
  obtain ⟨Hf, as, s, he, ho, nd, hnn, hw⟩ := r.ex
  cases ho with
  | cons h t =>
    rename_i cs
    obtain ⟨a, bs, hob, vs, os, e1, e2, e3, p, q⟩ := owOpn h hn
    subst e2
    have hl := owLLen q
    obtain ⟨z1, z2⟩ := zipMap hl
    refine ⟨a, hob, vs, os, e1, e3, p, hl, ⟨Hf, bs ++ cs, s, fun e m => ?_, ?_, ?_, fun b m => hnn b ?_, hw⟩⟩
    · rcases List.mem_cons.mp m with e' | m
      · subst e'; exact e3
      · exact he e m
    · rw [List.map_append, List.map_append, z1, z2]
      exact owLApp q t
    · rw [List.cons_append] at nd
      exact nodMid.mp nd
    · rw [List.cons_append]
      exact (List.perm_middle (a := a)).mem_iff.mpr m
theorem Rel.shut {a : Addr} {o : O} {ho : HO} {vs : List V} {os : List O} (r : Rel K mg H ((a, ho) :: Ex) (vs.zip os ++ rs) ws) (p : Opn mg o ho vs os) (hl : vs.length = os.length) : Rel K mg H Ex ((.ref a, o) :: rs) ws := by
  obtain ⟨Hf, as, s, he, hob, nd, hnn, hw⟩ := r.ex
  obtain ⟨z1, z2⟩ := zipMap hl
  rw [List.map_append, List.map_append, z1, z2] at hob
  obtain ⟨a1, a2, rfl, h1, h2⟩ := owLSplit hl hob
  refine ⟨Hf, (a :: a1) ++ a2, s, fun e m => he e (List.mem_cons_of_mem _ m), .cons (p.ow (he _ List.mem_cons_self) h1) h2, ?_, fun b m => hnn b ?_, hw⟩
  · rw [List.cons_append]
    exact nodMid.mpr nd
  · rw [List.cons_append] at m
    exact (List.perm_middle (a := a)).mem_iff.mp m
/-- an owned value becomes data -/
theorem Rel.fz {v : V} {o : O} {x : PyData} (r : Rel K mg H Ex ((v, o) :: rs) ws) (e : o.fz = some x) : Rel K mg H Ex ((v, .d x) :: rs) ws := by
  obtain ⟨Hf, as, s, he, hob, nd, hnn, hw⟩ := r.ex
  cases hob with
  | cons h t =>
    rename_i a1 a2
    have q := owFz s.same h e
    have sub : (Ex.map (·.1) ++ a2).Sublist (Ex.map (·.1) ++ (a1 ++ a2)) := (List.sublist_append_right a1 a2).append_left _
    have dj : ∀ a ∈ Ex.map (·.1) ++ a2, a ∉ a1 := fun a m m1 => by
      have hp : (Ex.map (·.1) ++ (a1 ++ a2)).Perm (a1 ++ (Ex.map (·.1) ++ a2)) := by
        rw [← List.append_assoc, ← List.append_assoc]
        exact List.perm_append_comm.append_right _
      have nd2 := hp.nodup_iff.mp nd
      exact (List.nodup_append.mp nd2).2.2 a m1 a m rfl
    refine ⟨frz Hf H a1, a2, frzIn s a1 (fun a m => (hnn a (List.mem_append_right _ (List.mem_append_left _ m))).1.2), he, .cons (as := []) (.d q) (owLMono (frzSame s.same a1) t fun a m => rfl), nd.sublist sub, fun a m => ?_, fun p m => ?_⟩
    · exact ⟨frzNot (dj a m) (hnn a (sub.subset m)).1, (hnn a (sub.subset m)).2⟩
    · obtain ⟨bs, h⟩ := hw p m
      exact ⟨bs, owMono (frzSame s.same a1) h fun a m => rfl⟩
/-- an object of ours that is a tuple of data whose raw object is known becomes data -/
theorem Rel.shutF {p : Addr} {ob : Obj} {vs : List V} {ds : List PyData} (r : Rel K mg H ((p, .frz ob (.tup vs)) :: Ex) rs ws) (ho : ob.dict = none) (hi : idxS ds = true)
    (hv : ∀ (Hf : Fz) (as : List Addr), OwL K mg Hf H (rs.map (·.1)) (rs.map (·.2)) as → DpAll K Hf.h vs ds) : Rel K mg H Ex ((.ref p, .d (.tuple ds)) :: rs) ws := by
  obtain ⟨Hf, as, s, he, hob, nd, hnn, hw⟩ := r.ex
  have ep : H p = some (.frz ob (.tup vs)) := he (p, .frz ob (.tup vs)) List.mem_cons_self
  have nd' := List.nodup_cons.mp nd
  refine ⟨frz Hf H [p], as, frzIn s [p] (fun a m => by rw [List.mem_singleton.mp m]; exact (hnn p List.mem_cons_self).1.2), fun e m => he e (List.mem_cons_of_mem _ m), .cons (as := []) (.d (.ftup ?_ ho hi (dpAllMono (frzSame s.same [p]).h (hv Hf as hob)))) (owLMono (frzSame s.same [p]) hob fun a m => rfl), nd'.2, fun a m => ?_, fun q m => ?_⟩
  · rw [frzAt List.mem_cons_self]
    exact ep
  · have ne : a ≠ p := fun z => nd'.1 (by subst z; exact m)
    exact ⟨frzNot (by simpa using ne) (hnn a (List.mem_cons_of_mem _ m)).1, (hnn a (List.mem_cons_of_mem _ m)).2⟩
  · obtain ⟨bs, h⟩ := hw q m
    exact ⟨bs, owMono (frzSame s.same [p]) h fun a m => rfl⟩
/-- a new tuple of data -/
theorem Rel.newD {p : Addr} {vs : List V} {ds : List PyData} (r : Rel K mg H Ex rs ws) (h : H p = none) (hi : idxS ds = false)
    (hv : ∀ (Hf : Fz) (as : List Addr), OwL K mg Hf H (rs.map (·.1)) (rs.map (·.2)) as → DpAll K Hf.h vs ds) : Rel K mg (upd H p (.tup vs)) Ex ((.ref p, .d (.tuple ds)) :: rs) ws := by
  obtain ⟨Hf, as, s, he, ho, nd, hn, hw⟩ := r.ex
  have sn : Same H (upd H p (.tup vs)) := sameNew h _
  have s' : Hf.on K (upd H p (.tup vs)) := s.trans sn
  have st : ∀ {a : Addr}, (∃ u, H a = some u) → upd H p (.tup vs) a = H a := fun ⟨u, q⟩ => (sn _ _ q).trans q.symm
  have pe : ∀ {a : Addr}, (∃ u, H a = some u) → a ≠ p := fun ⟨u, q⟩ z => by rw [z, h] at q; cases q
  have th : ∀ a ∈ Ex.map (·.1) ++ as, ∃ u, H a = some u := fun a m => by
    rcases List.mem_append.mp m with m | m
    · obtain ⟨q, mq, rfl⟩ := List.mem_map.mp m
      exact ⟨_, he q mq⟩
    · exact owLThere ho a m
  refine ⟨frz Hf (upd H p (.tup vs)) [p], as, frzIn s' [p] (fun a m => by rw [List.mem_singleton.mp m]; exact (s.free h).2), fun e m => sn _ _ (he e m), .cons (as := []) (.d (.tup ?_ hi (dpAllMono (frzSame s'.same [p]).h (hv Hf as ho)))) (owLMono (frzSame s'.same [p]) ho fun a m => st (owLThere ho a m)), nd, fun a m => ⟨frzNot (by simpa using pe (th a m)) (hn a m).1, fun xs e => (hn a m).2 xs ((st (th a m)).symm.trans e)⟩, fun q m => ?_⟩
  · rw [frzAt List.mem_cons_self, upd_same]
  · obtain ⟨bs, hb⟩ := hw q m
    exact ⟨bs, owMono (frzSame s'.same [p]) hb fun a m => st (owThere hb a m)⟩
theorem owRef {Hf : Fz} {H : Hp} {v : V} {o : O} {as : List Addr} (h : Ow K mg Hf H v o as) (n : o.nd = true) : ∃ b, v = .ref b := by
  cases h with
  | d _ => cases n
  | fr _ _ => cases n
  | gL _ _ => exact ⟨_, rfl⟩
  | gT _ _ => exact ⟨_, rfl⟩
  | gD _ _ _ => exact ⟨_, rfl⟩
  | gK _ _ _ => exact ⟨_, rfl⟩
  | pin _ => exact ⟨_, rfl⟩
  | mem _ => exact ⟨_, rfl⟩
  | hole => exact ⟨_, rfl⟩
  | jk => exact ⟨_, rfl⟩
  | exc _ _ _ => exact ⟨_, rfl⟩
  | lst _ _ => exact ⟨_, rfl⟩
  | tup _ _ => exact ⟨_, rfl⟩
  | dK _ _ _ => exact ⟨_, rfl⟩
  | dT _ _ _ => exact ⟨_, rfl⟩
  | ins _ _ _ _ => exact ⟨_, rfl⟩
theorem owLRef {Hf : Fz} : ∀ {vs : List V} {os : List O} {as : List Addr}, OwL K mg Hf H vs os as → (∃ o ∈ os, ∀ x, o ≠ .d x) → ∃ b, V.ref b ∈ vs
  | _, _, _, .nil, h => by obtain ⟨o, m, _⟩ := h; cases m
  | _, _, _, .cons h t, q => by
    obtain ⟨o, m, ne⟩ := q
    rcases List.mem_cons.mp m with e | m
    · subst e
      cases h with
      | d _ => exact absurd rfl (ne _)
      | gL _ _ => exact ⟨_, List.mem_cons_self⟩
      | gT _ _ => exact ⟨_, List.mem_cons_self⟩
      | gD _ _ _ => exact ⟨_, List.mem_cons_self⟩
      | gK _ _ _ => exact ⟨_, List.mem_cons_self⟩
      | pin _ => exact ⟨_, List.mem_cons_self⟩
      | mem _ => exact ⟨_, List.mem_cons_self⟩
      | hole => exact ⟨_, List.mem_cons_self⟩
      | jk => exact ⟨_, List.mem_cons_self⟩
      | exc _ _ _ => exact ⟨_, List.mem_cons_self⟩
      | fr n h => obtain ⟨b, rfl⟩ := owRef h n; exact ⟨_, List.mem_cons_self⟩
      | lst _ _ => exact ⟨_, List.mem_cons_self⟩
      | tup _ _ => exact ⟨_, List.mem_cons_self⟩
      | dK _ _ _ => exact ⟨_, List.mem_cons_self⟩
      | dT _ _ _ => exact ⟨_, List.mem_cons_self⟩
      | ins _ _ _ _ => exact ⟨_, List.mem_cons_self⟩
    · obtain ⟨b, mb⟩ := owLRef t ⟨o, m, ne⟩
      exact ⟨b, List.mem_cons_of_mem _ mb⟩
/-- a tuple of plain values that is there may be had as data -/
theorem Rel.adopt {p : Addr} {vs : List V} {ds : List PyData} (r : Rel K mg H Ex rs ws) (h : H p = some (.tup vs)) (hr : ∀ b, V.ref b ∉ vs) (hi : idxS ds = false) (hv : ∀ Hf : Hp, DpAll K Hf vs ds) : Rel K mg H Ex ((.ref p, .d (.tuple ds)) :: rs) ws := by
  obtain ⟨Hf, as, s, he, ho, nd, hn, hw⟩ := r.ex
  have ne : ∀ a ∈ Ex.map (·.1) ++ as, a ≠ p := fun a m z => by
    subst z
    obtain ⟨b, mb⟩ := (hn a m).2 _ h
    exact hr b mb
  have hm : Hf.m p = none := by
    cases q : Hf.m p with
    | none => rfl
    | some g =>
      obtain ⟨_, kvs, h2, _⟩ := s.mem p g q
      rw [h] at h2; cases h2
  refine ⟨frz Hf H [p], as, frzIn s [p] (fun a m => by rw [List.mem_singleton.mp m]; exact hm), he, .cons (as := []) (.d (.tup ?_ hi (hv _))) (owLMono (frzSame s.same [p]) ho fun a m => rfl), nd, fun a m => ⟨frzNot (by simpa using ne a m) (hn a m).1, (hn a m).2⟩, fun q m => ?_⟩
  · rw [frzAt List.mem_cons_self, h]
  · obtain ⟨bs, hb⟩ := hw q m
    exact ⟨bs, owMono (frzSame s.same [p]) hb fun a m => rfl⟩
/-- plain data -/
theorem Rel.data {v : V} {x : PyData} (r : Rel K mg H Ex rs ws) (h : ∀ Hf : Hp, Dp K Hf v x) : Rel K mg H Ex ((v, .d x) :: rs) ws := by
  obtain ⟨Hf, as, s, he, hob, nd, hnn, hw⟩ := r.ex
  exact ⟨Hf, as, s, he, .cons (as := []) (.d (h Hf.h)) hob, nd, hnn, hw⟩
end
end Z
namespace Z
open PySem PySem.Spec L2
abbrev Gs := List (Option O)
structure Exn where
  c : Str
  fs : List (Str × PyData)
inductive Res (α : Type) where
  | ok (a : α) (e : Gs)
  | ex (x : Exn) (e : Gs)
  | bad
  | all (f : V → Res α)
def Res.bdR {α β : Type} : Res α → (α → Gs → Res β) → Res β
  | .ok a e, k => k a e
  | .ex x e, _ => .ex x e
  | .bad, _ => .bad
  | .all f, k => .all fun v => (f v).bdR k
/-- as bdR; one turn is looked at alone -/
def Res.bd {α β : Type} (r : Res α) (k : α → Gs → Res β) : Res β := match r with
  | .ok a e => k a e
  | .ex x e => .ex x e
  | .bad => .bad
  | .all f => .all fun v => (f v).bdR k
theorem Res.bdR_eq {α β : Type} {k : α → Gs → Res β} : ∀ {r : Res α}, r.bdR k = r.bd k
  | .ok _ _ => rfl
  | .ex _ _ => rfl
  | .bad => rfl
  | .all _ => rfl
def M (α : Type) : Type := Gs → Res α
def M.ret {α : Type} (a : α) : M α := fun e => .ok a e
def M.bd {α β : Type} (m : M α) (f : α → M β) : M β := fun e => (m e).bd f
instance : Monad M where
  pure := M.ret
  bind := M.bd
def M.no {α : Type} : M α := fun _ => .bad
def WpR {α : Type} (r : Res α) (A : α → Gs → Prop) (B : Exn → Gs → Prop) : Prop := match r with
  | .ok a e => A a e
  | .ex x e => B x e
  | .bad => False
  | .all f => ∀ v, WpR (f v) A B
def Wp {α : Type} (r : Res α) (A : α → Gs → Prop) (B : Exn → Gs → Prop) : Prop := match r with
  | .ok a e => A a e
  | .ex x e => B x e
  | .bad => False
  | .all f => ∀ v, WpR (f v) A B
theorem wpR_eq {α : Type} {A : α → Gs → Prop} {B : Exn → Gs → Prop} : ∀ {r : Res α}, WpR r A B = Wp r A B
  | .ok _ _ => rfl
  | .ex _ _ => rfl
  | .bad => rfl
  | .all _ => rfl
theorem wp_all {α : Type} {f : V → Res α} {A : α → Gs → Prop} {B : Exn → Gs → Prop} : Wp (.all f) A B ↔ ∀ v, Wp (f v) A B := forall_congr' fun v => by rw [wpR_eq]
theorem Res.wp_bd {α β : Type} {f : α → Gs → Res β} {A : β → Gs → Prop} {B : Exn → Gs → Prop} : ∀ {r : Res α}, Wp (r.bd f) A B ↔ Wp r (fun a e' => Wp (f a e') A B) B
  | .ok a e => Iff.rfl
  | .ex x e => Iff.rfl
  | .bad => Iff.rfl
  | .all g => wp_all.trans ((forall_congr' fun v => by rw [Res.bdR_eq]; exact Res.wp_bd (r := g v)).trans wp_all.symm)
theorem Wp.bd {α β : Type} {m : M α} {f : α → M β} {e : Gs} {A : β → Gs → Prop} {B : Exn → Gs → Prop} (h : Wp (M.bd m f e) A B) : Wp (m e) (fun a e' => Wp (f a e') A B) B := Res.wp_bd.mp h
theorem Wp.imp {α : Type} {A A' : α → Gs → Prop} {B B' : Exn → Gs → Prop} : ∀ {r : Res α}, Wp r A B → (∀ a e, A a e → A' a e) → (∀ x e, B x e → B' x e) → Wp r A' B'
  | .ok a e, h, ha, hb => ha _ _ h
  | .ex x e, h, ha, hb => hb _ _ h
  | .bad, h, ha, hb => h
  | .all g, h, ha, hb => wp_all.mpr fun v => Wp.imp (r := g v) (wp_all.mp h v) ha hb
def roots : St → Gs → Roots
  | some v :: σ, some o :: g => (v, o) :: roots σ g
  | _ :: σ, _ :: g => roots σ g
  | _, _ => []
structure Fit (σ : St) (g : Gs) : Prop where
  len : σ.length = g.length
  at_ : ∀ (i : Nat) (o : O), g[i]? = some (some o) → ∃ v : V, σ[i]? = some (some v)
theorem Fit.clr {σ : St} {g : Gs} (f : Fit σ g) (i : Nat) : Fit σ (g.set i none) := ⟨by rw [List.length_set]; exact f.len, fun j o h => by
  by_cases e : i = j
  · subst e
    rw [List.getElem?_set] at h
    simp at h
  · rw [List.getElem?_set_ne e] at h
    exact f.at_ j o h⟩
theorem Fit.set {σ : St} {g : Gs} (f : Fit σ g) (i : Nat) (v : V) (o : Option O) : Fit (σ.set i (some v)) (g.set i o) := ⟨by rw [List.length_set, List.length_set]; exact f.len, fun j o' h => by
  by_cases e : i = j
  · subst e
    have hl : i < σ.length := by
      rw [f.len]
      rw [List.getElem?_set] at h
      by_cases q : i < g.length
      · exact q
      · simp [q] at h
    exact ⟨v, List.getElem?_set_self hl⟩
  · rw [List.getElem?_set_ne e] at h
    rw [List.getElem?_set_ne e]
    exact f.at_ j o' h⟩
theorem rootsGet : ∀ {σ : St} {g : Gs} {i : Nat} {v : V} {o : O}, σ[i]? = some (some v) → g[i]? = some (some o) → (roots σ g).Perm ((v, o) :: roots σ (g.set i none))
  | [], _, _, _, _, h, _ => by simp at h
  | _ :: _, [], _, _, _, _, h => by simp at h
  | s :: σ, p :: g, 0, v, o, h1, h2 => by
    simp only [List.getElem?_cons_zero, Option.some.injEq] at h1 h2
    subst h1; subst h2
    simp only [List.set_cons_zero, roots]
    exact .refl _
  | s :: σ, p :: g, i + 1, v, o, h1, h2 => by
    simp only [List.getElem?_cons_succ] at h1 h2
    have ih := rootsGet h1 h2
    simp only [List.set_cons_succ]
    cases s with
    | none => simpa only [roots] using ih
    | some w =>
      cases p with
      | none => simpa only [roots] using ih
      | some q =>
        simp only [roots]
        exact (ih.cons _).trans (.swap _ _ _)
theorem rootsSet : ∀ {σ : St} {g : Gs} {i : Nat} {v : V} {o : O}, i < σ.length → i < g.length → (roots (σ.set i (some v)) (g.set i (some o))).Perm ((v, o) :: roots σ (g.set i none))
  | [], _, _, _, _, h, _ => by simp at h
  | _ :: _, [], _, _, _, _, h => by simp at h
  | s :: σ, p :: g, 0, v, o, h1, h2 => by
    simp only [List.set_cons_zero]
    cases s <;> (simp only [roots]; exact .refl _)
  | s :: σ, p :: g, i + 1, v, o, h1, h2 => by
    have ih := rootsSet (σ := σ) (g := g) (i := i) (v := v) (o := o) (by simpa using h1) (by simpa using h2)
    simp only [List.set_cons_succ]
    cases s with
    | none => simpa only [roots] using ih
    | some w =>
      cases p with
      | none => simpa only [roots] using ih
      | some q =>
        simp only [roots]
        exact (ih.cons _).trans (.swap _ _ _)
theorem rootsNone : ∀ {σ : St} {g : Gs} {i : Nat} {x : Option V}, roots (σ.set i x) (g.set i none) = roots σ (g.set i none)
  | [], _, _, _ => by simp
  | s :: σ, [], i, x => by cases i <;> simp [roots]
  | s :: σ, p :: g, 0, x => by
    simp only [List.set_cons_zero]
    cases s <;> cases x <;> simp [roots]
  | s :: σ, p :: g, i + 1, x => by
    have ih := rootsNone (σ := σ) (g := g) (i := i) (x := x)
    simp only [List.set_cons_succ]
    cases s with
    | none => simpa only [roots] using ih
    | some w => cases p <;> simp only [roots, ih]
theorem setNone {g : Gs} {i : Nat} (h : ∀ o, g[i]? ≠ some (some o)) : g.set i none = g := by
  apply List.ext_getElem?
  intro j
  by_cases e : i = j
  · subst e
    rw [List.getElem?_set]
    by_cases q : i < g.length
    · simp only [if_true, q]
      cases z : g[i]? with
      | none => rw [List.getElem?_eq_none_iff] at z; omega
      | some y =>
        cases y with
        | none => rfl
        | some o => exact absurd z (h o)
    · simp only [if_true, q, if_false]
      exact (List.getElem?_eq_none (by omega)).symm
  · rw [List.getElem?_set_ne e]
section
variable {K : PySem.W.Frag} {mg : Str → Option Value} {H H' : Hp} {Ex : List (Addr × HO)} {T ws : Roots} {σ : St} {g : Gs}
theorem Rel.clr (r : Rel K mg H Ex (roots σ g ++ T) ws) (f : Fit σ g) (i : Nat) : Rel K mg H Ex (roots σ (g.set i none) ++ T) ws := by
  cases q : g[i]? with
  | none => rw [setNone (by intro o; rw [q]; simp)]; exact r
  | some y =>
    cases y with
    | none => rw [setNone (by intro o; rw [q]; simp)]; exact r
    | some o =>
      obtain ⟨v, hv⟩ := f.at_ i o q
      exact (r.perm ((rootsGet hv q).append_right T)).drop
theorem Rel.setAt {v : V} {o : O} {i : Nat} (r : Rel K mg H Ex (roots σ g ++ ((v, o) :: T)) ws) (f : Fit σ g) (hi : i < σ.length) : Rel K mg H Ex (roots (σ.set i (some v)) (g.set i (some o)) ++ T) ws := by
  have r1 := r.clr f i
  have r2 : Rel K mg H Ex ((v, o) :: (roots σ (g.set i none) ++ T)) ws := r1.perm List.perm_middle
  exact r2.perm ((rootsSet hi (f.len ▸ hi)).symm.append_right T)
end
/-- a field of an exception: plain values alone -/
def vF : PyData → V
  | .bool b => .bl b
  | .int i => .int i
  | .str s => .str s
  | _ => .non
def flatF : PyData → Bool
  | .none => true
  | .bool _ => true
  | .int _ => true
  | .str _ => true
  | _ => false
def ExAt (mg : Str → Option Value) (Ex : List (Addr × HO)) (cls : Value) (d : Option Addr) (H : Hp) (x : Exn) : Prop :=
  ∃ C, cls = .ref C ∧ mg x.c = some (.ref C) ∧ ((x.fs = [] ∧ d = none) ∨ ∃ dd, d = some dd ∧ H dd = some (.xd (x.fs.map fun p => (p.1, vF p.2))) ∧ dd ∉ Ex.map (·.1) ∧ ∀ p ∈ x.fs, flatF p.2 = true)
structure At (X : Cx) (H : Hp) (Ex : List (Addr × HO)) (σ : St) (g : Gs) (T ws : Roots) : Prop where
  fit : Fit σ g
  rel : Rel X.K X.mg H Ex (roots σ g ++ T) ws
def Vs (pu : Bool) (ws : Roots) : Roots := if pu = true then ws else []
theorem vsSub {pu : Bool} {ws : Roots} : ∀ p ∈ Vs pu ws, p ∈ ws := fun p m => by
  unfold Vs at m
  split at m
  · exact m
  · cases m
section
variable {X : Cx} {H H' : Hp} {Ex : List (Addr × HO)} {σ : St} {g : Gs} {T T' ws ws' : Roots}
theorem At.views (a : At X H Ex σ g T ws) (m : ∀ p ∈ ws', p ∈ ws) : At X H Ex σ g T ws' := ⟨a.fit, a.rel.views m⟩
theorem At.same (a : At X H Ex σ g T ws) (e : Same H H') : At X H' Ex σ g T ws := ⟨a.fit, a.rel.same e⟩
theorem At.perm (a : At X H Ex σ g T ws) (p : T.Perm T') : At X H Ex σ g T' ws := ⟨a.fit, a.rel.perm (p.append_left _)⟩
theorem At.top {p : V × O} (a : At X H Ex σ g (p :: T) ws) : Rel X.K X.mg H Ex (p :: (roots σ g ++ T)) ws := a.rel.perm List.perm_middle
theorem At.ofTop {p : V × O} (f : Fit σ g) (r : Rel X.K X.mg H Ex (p :: (roots σ g ++ T)) ws) : At X H Ex σ g (p :: T) ws := ⟨f, r.perm List.perm_middle.symm⟩
theorem At.drop {p : V × O} (a : At X H Ex σ g (p :: T) ws) : At X H Ex σ g T ws := ⟨a.fit, a.top.drop⟩
theorem At.toView {p : V × O} (a : At X H Ex σ g (p :: T) ws) : At X H Ex σ g T (p :: ws) := ⟨a.fit, a.top.toView⟩
theorem At.data {v : V} {x : PyData} (a : At X H Ex σ g T ws) (h : ∀ Hf, Dp X.K Hf v x) : At X H Ex σ g ((v, .d x) :: T) ws := .ofTop a.fit (a.rel.data h)
end
structure Ev (X : Cx) (W : WX) (pu : Bool) (e : Expr) (m : M O) : Prop where
  ex : ∃ t, PE X e t ∧ ∀ (σ : St) (H : Hp) (Q : VK) (g : Gs) (T : Roots) (Ex : List (Addr × HO)) (ws : Roots), At X H Ex σ g T ws →
    Wp (m g) (fun o g' => ∀ v H', (pu = true → g' = g ∧ Same H H') → At X H' Ex σ g' ((v, o) :: T) (Vs pu ws) → Q v H')
      (fun x g' => ∀ H' cls d, At X H' Ex σ g' T [] → ExAt X.mg Ex cls d H' x → W cls d σ H') → t σ H Q
structure EvP (X : Cx) (W : WX) (pu : Bool) (e : Expr) (m : M O) : Prop where
  ex : ∃ t, PE X e t ∧ ∀ (σ : St) (H : Hp) (Q : VK) (g : Gs) (T : Roots) (Ex : List (Addr × HO)) (ws : Roots), At X H Ex σ g T ws →
    Wp (m g) (fun o g' => ∀ v H', (pu = true → g' = g ∧ Same H H') → At X H' Ex σ g' T ((v, o) :: Vs pu ws) → Q v H')
      (fun x g' => ∀ H' cls d, At X H' Ex σ g' T [] → ExAt X.mg Ex cls d H' x → W cls d σ H') → t σ H Q
structure EvT (X : Cx) (W : WX) (pu : Bool) (e : Expr) (m : M Bool) : Prop where
  ex : ∃ t, PT X e t ∧ ∀ (σ : St) (H : Hp) (Q : Bool → Hp → Prop) (g : Gs) (T : Roots) (Ex : List (Addr × HO)) (ws : Roots), At X H Ex σ g T ws →
    Wp (m g) (fun b g' => ∀ H', (pu = true → g' = g ∧ Same H H') → At X H' Ex σ g' T (Vs pu ws) → Q b H')
      (fun x g' => ∀ H' cls d, At X H' Ex σ g' T [] → ExAt X.mg Ex cls d H' x → W cls d σ H') → t σ H Q
/-- and, or: a test whatever its whole is -/
structure EvW (X : Cx) (W : WX) (pu : Bool) (e : Expr) (m : M Bool) : Prop where
  ex : ∃ t, PW X e t ∧ ∀ (σ : St) (H : Hp) (Q : Bool → Hp → Prop) (g : Gs) (T : Roots) (Ex : List (Addr × HO)) (ws : Roots), At X H Ex σ g T ws →
    Wp (m g) (fun b g' => ∀ H', (pu = true → g' = g ∧ Same H H') → At X H' Ex σ g' T (Vs pu ws) → Q b H')
      (fun x g' => ∀ H' cls d, At X H' Ex σ g' T [] → ExAt X.mg Ex cls d H' x → W cls d σ H') → t σ H Q
theorem EvW.t {X : Cx} {W : WX} {pu : Bool} {e : Expr} {m : M Bool} (h : EvW X W pu e m) : EvT X W pu e m := by
  obtain ⟨t, h1, h2⟩ := h.ex
  exact ⟨t, h1.pt, h2⟩
def tAll : List TE → TA
  | [] => tNil
  | t :: ts => tCons t (tAll ts)
inductive PEs (X : Cx) : List Expr → List TE → Prop
  | nil : PEs X [] []
  | cons {e : Expr} {es : List Expr} {t : TE} {ts : List TE} : PE X e t → (starEach (e :: es) X.env = (false, eval e X.env) :: starEach es X.env) → PEs X es ts → PEs X (e :: es) (t :: ts)
theorem PEs.pa {X : Cx} : ∀ {es : List Expr} {ts : List TE}, PEs X es ts → PA X es (tAll ts)
  | _, _, .nil => pa_nil
  | _, _, .cons h s t => pa_cons h t.pa s
/-- operands, from the left, to be looked at -/
structure EvAs (X : Cx) (W : WX) (pu : Bool) (es : List Expr) (m : M (List O)) : Prop where
  ex : ∃ ts, PEs X es ts ∧ ∀ (σ : St) (H : Hp) (Q : List V → Hp → Prop) (g : Gs) (T : Roots) (Ex : List (Addr × HO)) (ws : Roots), At X H Ex σ g T ws →
    Wp (m g) (fun os g' => ∀ vs H', vs.length = os.length → (pu = true → g' = g ∧ Same H H') → At X H' Ex σ g' T (vs.zip os ++ Vs pu ws) → Q vs H')
      (fun x g' => ∀ H' cls d, At X H' Ex σ g' T [] → ExAt X.mg Ex cls d H' x → W cls d σ H') → tAll ts σ H Q
section
variable {X : Cx} {W : WX} {pu pv : Bool} {e a b : Expr} {es : List Expr} {m ma mb : M O}
theorem vsVs {p q : Bool} {ws : Roots} : Vs q (Vs p ws) = Vs (p && q) ws := by cases p <;> cases q <;> rfl
/-- a value is looked at -/
theorem Ev.p (h : Ev X W pu e m) : EvP X W pu e m := by
  obtain ⟨t, h1, h2⟩ := h.ex
  exact ⟨t, h1, fun σ H Q g T Ex ws a w => h2 σ H Q g T Ex ws a (w.imp (fun o g' k v H' s a' => k v H' s a'.toView) fun _ _ k => k)⟩
theorem eas_nil : EvAs X W true [] (M.ret []) := ⟨[], .nil, fun σ H Q g T Ex ws a w => w [] H rfl (fun _ => ⟨rfl, Same.refl _⟩) a⟩
def consM (m : M O) (ms : M (List O)) : M (List O) := M.bd m fun o => M.bd ms fun os => M.ret (o :: os)
/-- the first one had while the others are reckoned -/
theorem eas_e {m : M O} {ms : M (List O)} (h : Ev X W pu e m) (hs : EvAs X W pv es ms) (st : starEach (e :: es) X.env = (false, eval e X.env) :: starEach es X.env := by rfl) : EvAs X W (pu && pv) (e :: es) (consM m ms) := by
  obtain ⟨t, h1, h2⟩ := h.ex
  obtain ⟨ts, g1, g2⟩ := hs.ex
  refine ⟨t :: ts, .cons h1 st g1, fun σ H Q g T Ex ws a w => ?_⟩
  refine h2 σ H _ g T Ex ws a (w.bd.imp (fun o g' k v H' s a' => ?_) fun _ _ k => k)
  refine g2 σ H' _ g' _ Ex _ a' (k.bd.imp (fun os g2 k vs H2 hl s2 a2 => ?_) fun x g2 k H2 cls d a2 => k H2 cls d a2.drop)
  refine k (v :: vs) H2 (by simp [hl]) (fun z => ?_) (a2.toView.views fun p m => ?_)
  · have z' := Bool.and_eq_true_iff.mp z
    obtain ⟨e1, e2⟩ := s z'.1
    obtain ⟨e3, e4⟩ := s2 z'.2
    exact ⟨e3.trans e1, e2.trans e4⟩
  · rw [vsVs]
    simpa using m
/-- the first one is looked at, the others change nothing -/
theorem eas_p {m : M O} {ms : M (List O)} (h : EvP X W pu e m) (hs : EvAs X W true es ms) (st : starEach (e :: es) X.env = (false, eval e X.env) :: starEach es X.env := by rfl) : EvAs X W pu (e :: es) (consM m ms) := by
  obtain ⟨t, h1, h2⟩ := h.ex
  obtain ⟨ts, g1, g2⟩ := hs.ex
  refine ⟨t :: ts, .cons h1 st g1, fun σ H Q g T Ex ws a w => ?_⟩
  refine h2 σ H _ g T Ex ws a (w.bd.imp (fun o g' k v H' s a' => ?_) fun _ _ k => k)
  refine g2 σ H' _ g' _ Ex _ a' (k.bd.imp (fun os g2 k vs H2 hl s2 a2 => ?_) fun x g2 k H2 cls d a2 => k H2 cls d a2)
  obtain ⟨e3, e4⟩ := s2 rfl
  refine k (v :: vs) H2 (by simp [hl]) (fun z => ?_) (a2.views fun p m => ?_)
  · obtain ⟨e1, e2⟩ := s z
    exact ⟨e3.trans e1, e2.trans e4⟩
  · simp only [Vs, if_true, List.zip_cons_cons, List.cons_append, List.mem_cons, List.mem_append] at m ⊢
    rcases m with m | m | m
    · exact .inr (.inl m)
    · exact .inl m
    · exact .inr (.inr m)
def PR (X : Cx) (r : List V → Hp → VK → Prop) (f : List O → Option O) : Prop :=
  ∀ (xs : List V) (os : List O) (H : Hp) (Ex : List (Addr × HO)) (rs ws : Roots) (Q : VK) (o : O), xs.length = os.length → Rel X.K X.mg H Ex rs (xs.zip os ++ ws) → f os = some o →
    (∀ v H', Same H H' → Rel X.K X.mg H' Ex ((v, o) :: rs) (xs.zip os ++ ws) → Q v H') → r xs H Q
def liftM (f : List O → Option O) (os : List O) : M O := fun g => match f os with
  | some o => .ok o g
  | none => .bad
theorem wpLift {f : List O → Option O} {os : List O} {g : Gs} {A : O → Gs → Prop} {B : Exn → Gs → Prop} (h : Wp (liftM f os g) A B) : ∃ o, f os = some o ∧ A o g := by
  unfold liftM Wp at h
  cases q : f os with
  | none => rw [q] at h; exact h.elim
  | some o => rw [q] at h; exact ⟨o, rfl, h⟩
/-- two operands -/
def r2L (r : R2) : List V → Hp → VK → Prop := fun xs H Q => match xs with
  | [x, y] => r x y H Q
  | _ => False
def r1L (r : V → Hp → VK → Prop) : List V → Hp → VK → Prop := fun xs H Q => match xs with
  | [x] => r x H Q
  | _ => False
def opM (f : List O → Option O) (ms : M (List O)) : M O := M.bd ms (liftM f)
theorem opCore {r : List V → Hp → VK → Prop} {f : List O → Option O} {ms : M (List O)} {ts : List TE} (pr : PR X r f)
    (g2 : ∀ (σ : St) (H : Hp) (Q : List V → Hp → Prop) (g : Gs) (T : Roots) (Ex : List (Addr × HO)) (ws : Roots), At X H Ex σ g T ws →
      Wp (ms g) (fun os g' => ∀ vs H', vs.length = os.length → (pu = true → g' = g ∧ Same H H') → At X H' Ex σ g' T (vs.zip os ++ Vs pu ws) → Q vs H')
        (fun x g' => ∀ H' cls d, At X H' Ex σ g' T [] → ExAt X.mg Ex cls d H' x → W cls d σ H') → tAll ts σ H Q) :
    ∀ (σ : St) (H : Hp) (Q : VK) (g : Gs) (T : Roots) (Ex : List (Addr × HO)) (ws : Roots), At X H Ex σ g T ws →
      Wp (opM f ms g) (fun o g' => ∀ v H', (pu = true → g' = g ∧ Same H H') → At X H' Ex σ g' ((v, o) :: T) (Vs pu ws) → Q v H')
        (fun x g' => ∀ H' cls d, At X H' Ex σ g' T [] → ExAt X.mg Ex cls d H' x → W cls d σ H') → tAll ts σ H fun xs H2 => r xs H2 Q := fun σ H Q g T Ex ws a w => by
  refine g2 σ H _ g T Ex ws a (w.bd.imp (fun os g' k vs H' hl s a' => ?_) fun _ _ k => k)
  obtain ⟨o, ho, k⟩ := wpLift k
  refine pr vs os H' Ex _ _ Q o hl a'.rel ho fun v H2 s2 r2 => k v H2 (fun z => ?_) (.ofTop a'.fit (r2.views fun p m => List.mem_append_right _ m))
  obtain ⟨e1, e2⟩ := s z
  exact ⟨e1, e2.trans s2⟩
theorem ev_op {op : Operator} {r : R2} {f : List O → Option O} {ms : M (List O)} {pos : Pos} (ho : OpR X (binaryOp op) r) (pr : PR X (r2L r) f) (h : EvAs X W pu [a, b] ms) : Ev X W pu (.BinOp a op b pos) (opM f ms) := by
  obtain ⟨ts, g1, g2⟩ := h.ex
  cases g1 with
  | cons p1 _ g1 =>
    cases g1 with
    | cons p2 _ g1 =>
      cases g1
      exact ⟨_, pe_op ho p1 p2, opCore pr g2⟩
theorem ev_un {op : UnaryOp} {r : V → Hp → VK → Prop} {f : List O → Option O} {ms : M (List O)} {pos : Pos} (ho : UnR X (unaryOp op) r) (pr : PR X (r1L r) f) (h : EvAs X W pu [a] ms) : Ev X W pu (.UnaryOp op a pos) (opM f ms) := by
  obtain ⟨ts, g1, g2⟩ := h.ex
  cases g1 with
  | cons p1 _ g1 =>
    cases g1
    exact ⟨_, pe_un ho p1, opCore pr g2⟩
theorem ev_cmp {op : CmpOp} {r : R2} {f : List O → Option O} {ms : M (List O)} {pos : Pos} (ho : OpR X (compareOp op) r) (pr : PR X (r2L r) f) (h : EvAs X W pu [a, b] ms) (hm : behindInMarks op b = false) : Ev X W pu (.Compare a [op] [b] pos) (opM f ms) := by
  obtain ⟨ts, g1, g2⟩ := h.ex
  cases g1 with
  | cons p1 _ g1 =>
    cases g1 with
    | cons p2 _ g1 =>
      cases g1
      exact ⟨_, pe_cmpR ho p1 p2 hm, opCore pr g2⟩
def asB : O → M Bool := fun o g => match o with
  | .d (.bool b) => .ok b g
  | _ => .bad
theorem wpB {o : O} {g : Gs} {A : Bool → Gs → Prop} {B : Exn → Gs → Prop} (h : Wp (asB o g) A B) : ∃ b, o = .d (.bool b) ∧ A b g := by
  unfold asB at h
  split at h
  · exact ⟨_, rfl, h⟩
  · exact h.elim
theorem Rel.isB {K : PySem.W.Frag} {mg : Str → Option Value} {H : Hp} {Ex : List (Addr × HO)} {rs ws : Roots} {v : V} {k : Bool} (r : Rel K mg H Ex ((v, .d (.bool k)) :: rs) ws) : v = .bl k := by
  obtain ⟨Hf, as, s, he, ho, nd, hn, hw⟩ := r.ex
  cases ho with
  | cons h t => cases h with | d h => cases h; rfl
def tstM (m : M O) : M Bool := M.bd m asB
theorem tstCore {t : TE} (h2 : ∀ (σ : St) (H : Hp) (Q : VK) (g : Gs) (T : Roots) (Ex : List (Addr × HO)) (ws : Roots), At X H Ex σ g T ws →
    Wp (m g) (fun o g' => ∀ v H', (pu = true → g' = g ∧ Same H H') → At X H' Ex σ g' ((v, o) :: T) (Vs pu ws) → Q v H')
      (fun x g' => ∀ H' cls d, At X H' Ex σ g' T [] → ExAt X.mg Ex cls d H' x → W cls d σ H') → t σ H Q) :
    ∀ (σ : St) (H : Hp) (Q : Bool → Hp → Prop) (g : Gs) (T : Roots) (Ex : List (Addr × HO)) (ws : Roots), At X H Ex σ g T ws →
    Wp (tstM m g) (fun b g' => ∀ H', (pu = true → g' = g ∧ Same H H') → At X H' Ex σ g' T (Vs pu ws) → Q b H')
      (fun x g' => ∀ H' cls d, At X H' Ex σ g' T [] → ExAt X.mg Ex cls d H' x → W cls d σ H') → t σ H fun x H1 => ∃ k, x = .bl k ∧ Q k H1 := fun σ H Q g T Ex ws a w => by
  refine h2 σ H _ g T Ex ws a (w.bd.imp (fun o g' k v H' s a' => ?_) fun _ _ k => k)
  obtain ⟨b, e, k⟩ := wpB k
  subst e
  exact ⟨b, a'.top.isB, k H' s a'.drop⟩
theorem et_cmp {op : CmpOp} {r : R2} {f : List O → Option O} {ms : M (List O)} {pos : Pos} (ho : OpR X (compareOp op) r) (pr : PR X (r2L r) f) (h : EvAs X W pu [a, b] ms) (hm : behindInMarks op b = false) : EvT X W pu (.Compare a [op] [b] pos) (tstM (opM f ms)) := by
  obtain ⟨ts, g1, g2⟩ := h.ex
  cases g1 with
  | cons p1 _ g1 =>
    cases g1 with
    | cons p2 _ g1 =>
      cases g1
      exact ⟨_, pt_cmpR ho p1 p2 hm, tstCore (opCore pr g2)⟩
/-- an expression that gives a truth, as a test -/
theorem et_val (h : Ev X W pu e m) (he : ∀ whole, isTrue e X.env whole = (do let v ← whole; standAt e.pos; holding [v] (truthy v)) := by intro _; rfl) : EvT X W pu e (tstM m) := by
  obtain ⟨t, h1, h2⟩ := h.ex
  exact ⟨_, pt_val h1 he, tstCore h2⟩
def notZ (m : M Bool) : M Bool := M.bd m fun b => M.ret (!b)
theorem et_not {m : M Bool} {pos : Pos} (h : EvT X W pu a m) : EvT X W pu (.UnaryOp .Not a pos) (notZ m) := by
  obtain ⟨t, h1, h2⟩ := h.ex
  exact ⟨_, pt_not h1, fun σ H Q g T Ex ws a w => h2 σ H _ g T Ex ws a (w.bd.imp (fun b g' k H' s a' => k H' s a') fun _ _ k => k)⟩
def andZ (m n : M Bool) : M Bool := M.bd m fun b => if b = true then n else M.ret false
def orZ (m n : M Bool) : M Bool := M.bd m fun b => if b = true then M.ret true else n
section
variable {rest : List Expr} {m n : M Bool} {pos : Pos}
theorem ew_and1 (h : EvT X W pu a m) : EvW X W pu (.BoolOp .And [a] pos) m := by
  obtain ⟨t, h1, h2⟩ := h.ex
  exact ⟨_, pw_and1 h1, h2⟩
theorem ew_or1 (h : EvT X W pu a m) : EvW X W pu (.BoolOp .Or [a] pos) m := by
  obtain ⟨t, h1, h2⟩ := h.ex
  exact ⟨_, pw_or1 h1, h2⟩
theorem ew_and (h : EvT X W pu a m) (hb : EvW X W pv (.BoolOp .And (b :: rest) pos) n) : EvW X W (pu && pv) (.BoolOp .And (a :: b :: rest) pos) (andZ m n) := by
  obtain ⟨t, h1, h2⟩ := h.ex
  obtain ⟨u, g1, g2⟩ := hb.ex
  refine ⟨_, pw_and h1 g1, fun σ H Q g T Ex ws a w => ?_⟩
  refine h2 σ H _ g T Ex ws a (w.bd.imp (fun c g' k H' s a' => ?_) fun _ _ k => k)
  cases c with
  | true =>
    refine iteT (g2 σ H' Q g' T Ex _ a' (k.imp (fun c g2 k H2 s2 a2 => k H2 (fun z => ?_) (by rw [vsVs] at a2; exact a2)) fun _ _ k => k))
    have z' := Bool.and_eq_true_iff.mp z
    obtain ⟨e1, e2⟩ := s z'.1
    obtain ⟨e3, e4⟩ := s2 z'.2
    exact ⟨e3.trans e1, e2.trans e4⟩
  | false =>
    refine iteF (k H' (fun z => s (Bool.and_eq_true_iff.mp z).1) (a'.views fun p m => ?_))
    cases pu <;> cases pv <;> first | exact m | cases m
theorem ew_or (h : EvT X W pu a m) (hb : EvW X W pv (.BoolOp .Or (b :: rest) pos) n) : EvW X W (pu && pv) (.BoolOp .Or (a :: b :: rest) pos) (orZ m n) := by
  obtain ⟨t, h1, h2⟩ := h.ex
  obtain ⟨u, g1, g2⟩ := hb.ex
  refine ⟨_, pw_or h1 g1, fun σ H Q g T Ex ws a w => ?_⟩
  refine h2 σ H _ g T Ex ws a (w.bd.imp (fun c g' k H' s a' => ?_) fun _ _ k => k)
  cases c with
  | false =>
    refine iteF (g2 σ H' Q g' T Ex _ a' (k.imp (fun c g2 k H2 s2 a2 => k H2 (fun z => ?_) (by rw [vsVs] at a2; exact a2)) fun _ _ k => k))
    have z' := Bool.and_eq_true_iff.mp z
    obtain ⟨e1, e2⟩ := s z'.1
    obtain ⟨e3, e4⟩ := s2 z'.2
    exact ⟨e3.trans e1, e2.trans e4⟩
  | true =>
    refine iteT (k H' (fun z => s (Bool.and_eq_true_iff.mp z).1) (a'.views fun p m => ?_))
    cases pu <;> cases pv <;> first | exact m | cases m
end
end
end Z
namespace Z
open PySem PySem.Spec L2
section
variable {X : Cx} {H H' : Hp} {Ex : List (Addr × HO)} {σ : St} {g : Gs} {T T' ws ws' : Roots} {W : WX} {pu pv : Bool} {e a b : Expr} {es : List Expr} {m ma mb : M O} {pos : Pos}
/-- plain data is read -/
def rdM (i : Nat) : M O := fun g => match g[i]? with
  | some (some (.d x)) => .ok (.d x) g
  | _ => .bad
/-- what stands at a name becomes data and is read -/
def fzM (i : Nat) : M O := fun g => match g[i]? with
  | some (some (.d x)) => .ok (.d x) g
  | some (some o) => match o.fz with
    | some x => .ok (.d x) (g.set i (some (.d x)))
    | none => .bad
  | _ => .bad
def pkM (i : Nat) : M O := fun g => match g[i]? with
  | some (some o) => .ok o g
  | _ => .bad
/-- what stands at a name is handed away -/
def mvM (i : Nat) : M O := fun g => match g[i]? with
  | some (some o) => .ok o (g.set i none)
  | _ => .bad
theorem At.get {i : Nat} {o : O} {v : V} (a : At X H Ex σ g T ws) (hg : g[i]? = some (some o)) (hv : σ[i]? = some (some v)) : Rel X.K X.mg H Ex ((v, o) :: (roots σ (g.set i none) ++ T)) ws :=
  a.rel.perm ((rootsGet hv hg).append_right T)
theorem setGet {i : Nat} {o : O} (hg : g[i]? = some (some o)) : g.set i (some o) = g := by
  apply List.ext_getElem?
  intro j
  by_cases e : i = j
  · subst e
    rw [List.getElem?_set_self (List.getElem?_eq_some_iff.mp hg).1, hg]
  · rw [List.getElem?_set_ne e]
theorem stGet {i : Nat} {v : V} (hv : σ[i]? = some (some v)) : σ.set i (some v) = σ := by
  apply List.ext_getElem?
  intro j
  by_cases e : i = j
  · subst e
    rw [List.getElem?_set_self (List.getElem?_eq_some_iff.mp hv).1, hv]
  · rw [List.getElem?_set_ne e]
theorem rootsPut {i : Nat} {o : O} {v : V} (f : Fit σ g) (hv : σ[i]? = some (some v)) : (roots σ (g.set i (some o))).Perm ((v, o) :: roots σ (g.set i none)) := by
  have hi := (List.getElem?_eq_some_iff.mp hv).1
  have := rootsSet (σ := σ) (g := g) (i := i) (v := v) (o := o) hi (f.len ▸ hi)
  rwa [stGet hv] at this
/-- the root of a slot is put back -/
theorem At.put {i : Nat} {o : O} {v : V} (f : Fit σ g) (hv : σ[i]? = some (some v)) (r : Rel X.K X.mg H Ex ((v, o) :: (roots σ (g.set i none) ++ T)) ws) : At X H Ex σ (g.set i (some o)) T ws := by
  refine ⟨⟨by rw [List.length_set]; exact f.len, fun j o' h => ?_⟩, r.perm ((rootsPut f hv).symm.append_right T)⟩
  by_cases e : i = j
  · subst e; exact ⟨v, hv⟩
  · rw [List.getElem?_set_ne e] at h; exact f.at_ j o' h
theorem At.rd {i : Nat} {x : PyData} {v : V} (a : At X H Ex σ g T ws) (hg : g[i]? = some (some (.d x))) (hv : σ[i]? = some (some v)) : At X H Ex σ g ((v, .d x) :: T) ws := by
  have r := (a.get hg hv).dup
  refine .ofTop a.fit (r.perm (.cons _ ?_))
  have p := (rootsGet hv hg).append_right T
  exact p.symm
theorem At.pk {i : Nat} {o : O} {v : V} (a : At X H Ex σ g T ws) (hg : g[i]? = some (some o)) (hv : σ[i]? = some (some v)) : At X H Ex σ g T ((v, o) :: ws) := by
  have r := (a.get hg hv).see
  exact ⟨a.fit, r.perm ((rootsGet hv hg).append_right T).symm⟩
theorem At.fzAt {i : Nat} {o : O} {x : PyData} {v : V} (a : At X H Ex σ g T ws) (hg : g[i]? = some (some o)) (hv : σ[i]? = some (some v)) (hf : o.fz = some x) : At X H Ex σ (g.set i (some (.d x))) T ws :=
  .put a.fit hv ((a.get hg hv).fz hf)
theorem ev_rd (i : Nat) {x : Str} (hN : X.N[i]? = some x := by rfl) (hv : Vis X.env.scope x := by first | exact Or.inl rfl | exact Or.inr (Or.inl rfl) | exact Or.inr (Or.inr rfl)) (hd : (x == ("__debug__" : Str)) = false := by decide)
    (hcd : (x == ("__classdict__" : Str)) = false := by decide) : Ev X W true (.Name x pos) (rdM i) := by
  refine ⟨_, pv i hN hv hd hcd, fun σ H Q g T Ex ws a w => ?_⟩
  unfold rdM at w
  split at w
  · rename_i y hg
    obtain ⟨v, hv⟩ := a.fit.at_ _ _ hg
    exact ⟨v, hv, w v H (fun _ => ⟨rfl, Same.refl _⟩) (a.rd hg hv)⟩
  · exact w.elim
theorem ev_fz (i : Nat) {x : Str} (hN : X.N[i]? = some x := by rfl) (hv : Vis X.env.scope x := by first | exact Or.inl rfl | exact Or.inr (Or.inl rfl) | exact Or.inr (Or.inr rfl)) (hd : (x == ("__debug__" : Str)) = false := by decide)
    (hcd : (x == ("__classdict__" : Str)) = false := by decide) : Ev X W false (.Name x pos) (fzM i) := by
  refine ⟨_, pv i hN hv hd hcd, fun σ H Q g T Ex ws a w => ?_⟩
  unfold fzM at w
  split at w
  · rename_i y hg
    obtain ⟨v, hv⟩ := a.fit.at_ _ _ hg
    exact ⟨v, hv, w v H (fun z => by cases z) ((a.rd hg hv).views vsSub)⟩
  · rename_i o _ hg
    split at w
    · rename_i y hf
      obtain ⟨v, hv⟩ := a.fit.at_ _ _ hg
      have hi := (List.getElem?_eq_some_iff.mp hg).1
      exact ⟨v, hv, w v H (fun z => by cases z) (((a.fzAt hg hv hf).rd (List.getElem?_set_self hi) hv).views vsSub)⟩
    · exact w.elim
  · exact w.elim
theorem ep_pk (i : Nat) {x : Str} (hN : X.N[i]? = some x := by rfl) (hv : Vis X.env.scope x := by first | exact Or.inl rfl | exact Or.inr (Or.inl rfl) | exact Or.inr (Or.inr rfl)) (hd : (x == ("__debug__" : Str)) = false := by decide)
    (hcd : (x == ("__classdict__" : Str)) = false := by decide) : EvP X W true (.Name x pos) (pkM i) := by
  refine ⟨_, pv i hN hv hd hcd, fun σ H Q g T Ex ws a w => ?_⟩
  unfold pkM at w
  split at w
  · rename_i y hg
    obtain ⟨v, hv⟩ := a.fit.at_ _ _ hg
    exact ⟨v, hv, w v H (fun _ => ⟨rfl, Same.refl _⟩) (a.pk hg hv)⟩
  · exact w.elim
theorem ev_mv (i : Nat) {x : Str} (hN : X.N[i]? = some x := by rfl) (hv : Vis X.env.scope x := by first | exact Or.inl rfl | exact Or.inr (Or.inl rfl) | exact Or.inr (Or.inr rfl)) (hd : (x == ("__debug__" : Str)) = false := by decide)
    (hcd : (x == ("__classdict__" : Str)) = false := by decide) : Ev X W false (.Name x pos) (mvM i) := by
  refine ⟨_, pv i hN hv hd hcd, fun σ H Q g T Ex ws a w => ?_⟩
  unfold mvM at w
  split at w
  · rename_i y hg
    obtain ⟨v, hv⟩ := a.fit.at_ _ _ hg
    exact ⟨v, hv, w v H (fun z => by cases z) (.ofTop (a.fit.clr i) ((a.get hg hv).views vsSub))⟩
  · exact w.elim
/-- what is only looked at, when it is data, is had -/
def vwM (m : M O) : M O := M.bd m fun o g => match o with
  | .d x => .ok (.d x) g
  | _ => .bad
def dM (x : PyData) : M O := M.ret (.d x)
theorem ev_int {i : Int} {j : Nat} : Ev X W true (.Constant (.int i) j pos) (dM (.int i)) := ⟨_, pe_int, fun σ H Q g T Ex ws a w => w _ H (fun _ => ⟨rfl, Same.refl _⟩) (a.data fun _ => .int i)⟩
theorem ev_bl {i : Bool} {j : Nat} : Ev X W true (.Constant (.bool i) j pos) (dM (.bool i)) := ⟨_, pe_bl, fun σ H Q g T Ex ws a w => w _ H (fun _ => ⟨rfl, Same.refl _⟩) (a.data fun _ => .bl i)⟩
theorem ev_non {j : Nat} : Ev X W true (.Constant .none j pos) (dM .none) := ⟨_, pe_non, fun σ H Q g T Ex ws a w => w _ H (fun _ => ⟨rfl, Same.refl _⟩) (a.data fun _ => .non)⟩
theorem ev_str {x : Str} {j : Nat} : Ev X W true (.Constant (.str x) j pos) (dM (.str x)) := ⟨_, pe_str, fun σ H Q g T Ex ws a w => w _ H (fun _ => ⟨rfl, Same.refl _⟩) (a.data fun _ => .str x)⟩
/-- a module's name that holds a text, an int -/
theorem ev_glob {x : Str} {v : V} {u : Value} {y : PyData} (hg : Gl X x) (hm : X.mg x = some u) (r : RelV v u) (hd : ∀ Hf, Dp X.K Hf v y) (hdb : (x == ("__debug__" : Str)) = false := by decide) : Ev X W true (.Name x pos) (dM y) :=
  ⟨_, pe_glob hg hm r hdb, fun σ H Q g T Ex ws a w => w _ H (fun _ => ⟨rfl, Same.refl _⟩) (a.data hd)⟩
structure EvEs (X : Cx) (W : WX) (pu : Bool) (es : List Expr) (m : M (List O)) : Prop where
  ex : ∃ ts, PEs X es ts ∧ ∀ (σ : St) (H : Hp) (Q : List V → Hp → Prop) (g : Gs) (T : Roots) (Ex : List (Addr × HO)) (ws : Roots), At X H Ex σ g T ws →
    Wp (m g) (fun os g' => ∀ vs H', vs.length = os.length → (pu = true → g' = g ∧ Same H H') → At X H' Ex σ g' (vs.zip os ++ T) (Vs pu ws) → Q vs H')
      (fun x g' => ∀ H' cls d, At X H' Ex σ g' T [] → ExAt X.mg Ex cls d H' x → W cls d σ H') → tAll ts σ H Q
theorem ees_nil : EvEs X W true [] (M.ret []) := ⟨[], .nil, fun σ H Q g T Ex ws a w => w [] H rfl (fun _ => ⟨rfl, Same.refl _⟩) a⟩
theorem permIn {p : V × O} {l T : Roots} : (l ++ p :: T).Perm ((p :: l) ++ T) := List.perm_middle
theorem ees_cons {ms : M (List O)} (h : Ev X W pu e m) (hs : EvEs X W pv es ms) (st : starEach (e :: es) X.env = (false, eval e X.env) :: starEach es X.env := by rfl) : EvEs X W (pu && pv) (e :: es) (consM m ms) := by
  obtain ⟨t, h1, h2⟩ := h.ex
  obtain ⟨ts, g1, g2⟩ := hs.ex
  refine ⟨t :: ts, .cons h1 st g1, fun σ H Q g T Ex ws a w => ?_⟩
  refine h2 σ H _ g T Ex ws a (w.bd.imp (fun o g' k v H' s a' => ?_) fun _ _ k => k)
  refine g2 σ H' _ g' _ Ex _ a' (k.bd.imp (fun os g2 k vs H2 hl s2 a2 => ?_) fun x g2 k H2 cls d a2 => k H2 cls d a2.drop)
  refine k (v :: vs) H2 (by simp [hl]) (fun z => ?_) ((a2.perm permIn).views fun p m => by rw [vsVs]; exact m)
  have z' := Bool.and_eq_true_iff.mp z
  obtain ⟨e1, e2⟩ := s z'.1
  obtain ⟨e3, e4⟩ := s2 z'.2
  exact ⟨e3.trans e1, e2.trans e4⟩
def allD : List O → Option (List PyData)
  | [] => some []
  | .d x :: r => match allD r with | some y => some (x :: y) | none => none
  | _ :: _ => none
theorem allDFz : ∀ {os : List O} {ds : List PyData}, allD os = some ds → O.fzL os = some ds
  | [], _, h => by simpa only [allD, O.fzL] using h
  | .d x :: r, ds, h => by
    simp only [allD] at h
    cases q : allD r with
    | none => rw [q] at h; cases h
    | some y =>
      rw [q] at h
      cases h
      simp only [O.fzL, O.fz, allDFz q]
  | .gL _ :: _, _, h => by simp [allD] at h
  | .gT _ :: _, _, h => by simp [allD] at h
  | .lst _ :: _, _, h => by simp [allD] at h
  | .tup _ :: _, _, h => by simp [allD] at h
  | .dK _ :: _, _, h => by simp [allD] at h
  | .dT _ :: _, _, h => by simp [allD] at h
  | .ins _ _ :: _, _, h => by simp [allD] at h
theorem allD_map : ∀ ds : List PyData, allD (ds.map O.d) = some ds
  | [] => rfl
  | x :: r => by simp [allD, allD_map r]
def mkTup (os : List O) : O := match allD os with
  | some ds => .d (.tuple ds)
  | none => .tup os
def lenOk (n : Nat) : Bool := decide (n ≤ 16777216)
theorem lenOk_le {n : Nat} (h : lenOk n = true) : n ≤ sizeLine := by
  have := of_decide_eq_true h
  rw [sizeLine_eq]
  exact this
def gdM {α : Type} (c : Bool) (m : M α) : M α := fun g => if c = true then m g else .bad
theorem wpGd {α : Type} {c : Bool} {m : M α} {A : α → Gs → Prop} {B : Exn → Gs → Prop} (h : Wp (gdM c m g) A B) : c = true ∧ Wp (m g) A B := by
  unfold gdM at h
  split at h
  · exact ⟨by assumption, h⟩
  · exact h.elim
def tupM (ms : M (List O)) : M O := M.bd ms fun os => gdM (lenOk os.length) (M.ret (mkTup os))
def lstM (ms : M (List O)) : M O := M.bd ms fun os => gdM (lenOk os.length) (M.ret (.lst os))
/-- a new tuple: as it is, or with its raw object known -/
def TupP (H : Hp) (vs : List V) (Q : VK) : Prop := (∀ p, H p = none → Q (.ref p) (upd H p (.tup vs))) ∨ ∀ (p : Addr) (o : Obj), o.dict = none → H p = none → Q (.ref p) (upd H p (.frz o (.tup vs)))
theorem owAllD0 {K : PySem.W.Frag} {mg : Str → Option Value} {H : Hp} {Hf : Fz} : ∀ {vs : List V} {os : List O} {as : List Addr} {ds : List PyData}, OwL K mg Hf H vs os as → allD os = some ds → DpAll K Hf.h vs ds
  | _, _, _, ds, .nil, h => by simp only [allD, Option.some.injEq] at h; subst h; exact .nil
  | _, _, _, ds, .cons (o := o) (os := os) h t, e => by
    cases h with
    | d h =>
      simp only [allD] at e
      cases q : allD os with
      | none => rw [q] at e; cases e
      | some y => rw [q] at e; cases e; exact .cons h (owAllD0 t q)
    | _ => simp [allD] at e
theorem Rel.newTup {K : PySem.W.Frag} {mg : Str → Option Value} {rs : Roots} {vs : List V} {os : List O} {Q : VK} (r : Rel K mg H Ex (vs.zip os ++ rs) ws) (hl : vs.length = os.length) (k5 : ∀ v H', Same H H' → Rel K mg H' Ex ((v, mkTup os) :: rs) ws → Q v H') : TupP H vs Q := by
  have dat : ∀ {Hf : Fz} {as : List Addr} {ds : List PyData}, allD os = some ds → OwL K mg Hf H ((vs.zip os ++ rs).map (·.1)) ((vs.zip os ++ rs).map (·.2)) as → DpAll K Hf.h vs ds := fun q h => by
    obtain ⟨z1, z2⟩ := zipMap hl
    rw [List.map_append, List.map_append, z1, z2] at h
    obtain ⟨a1, a2, _, h1, _⟩ := owLSplit hl h
    exact owAllD0 h1 q
  cases q : allD os with
  | none =>
    refine .inl fun p hp => ?_
    have hnf : ∃ b, V.ref b ∈ vs := by
      obtain ⟨Hf, as, s, he, ho, nd, hn, hw⟩ := r.ex
      obtain ⟨z1, z2⟩ := zipMap hl
      rw [List.map_append, List.map_append, z1, z2] at ho
      obtain ⟨a1, a2, _, h1, _⟩ := owLSplit hl ho
      refine owLRef h1 ?_
      refine Classical.byContradiction fun hc => ?_
      have all : ∀ o ∈ os, ∃ x, o = .d x := fun o m => Classical.byContradiction fun hx => hc ⟨o, m, fun x e => hx ⟨x, e⟩⟩
      have : ∀ os : List O, (∀ o ∈ os, ∃ x, o = .d x) → ∃ ds, allD os = some ds := by
        intro os
        induction os with
        | nil => exact fun _ => ⟨[], rfl⟩
        | cons o r ih =>
          intro h
          obtain ⟨x, rfl⟩ := h o (by simp)
          obtain ⟨ds, e⟩ := ih fun o m => h o (by simp [m])
          exact ⟨x :: ds, by rw [allD, e]⟩
      obtain ⟨ds, e⟩ := this os all
      rw [q] at e
      cases e
    have r1 := (r.new (.tup vs) hp (fun xs e => by cases e; exact hnf)).shut (.tup (os := os)) hl
    refine k5 _ _ (sameNew hp _) ?_
    have e : mkTup os = .tup os := by unfold mkTup; rw [q]
    rw [e]
    exact r1
  | some ds =>
    have e : mkTup os = .d (.tuple ds) := by unfold mkTup; rw [q]
    cases qi : idxS ds with
    | false =>
      refine .inl fun p hp => k5 _ _ (sameNew hp _) ?_
      rw [e]
      have r2 := r.newD (p := p) (vs := vs) hp qi fun Hf as h => dat q h
      exact (r2.perm (List.perm_middle (l₁ := vs.zip os)).symm).dropL
    | true =>
      refine .inr fun p o ho hp => k5 _ _ (sameNew hp _) ?_
      have r1 := r.new (.frz o (.tup vs)) hp
      rw [e]
      have r2 := r1.shutF (ds := ds) ho qi fun Hf as h => by
        obtain ⟨z1, z2⟩ := zipMap hl
        rw [List.map_append, List.map_append, z1, z2] at h
        obtain ⟨a1, a2, _, h1, _⟩ := owLSplit hl h
        exact owAllD0 h1 q
      exact (r2.perm (List.perm_middle (l₁ := vs.zip os)).symm).dropL
theorem Rel.newLst {K : PySem.W.Frag} {mg : Str → Option Value} {rs : Roots} {vs : List V} {os : List O} {p : Addr} (r : Rel K mg H Ex (vs.zip os ++ rs) ws) (hl : vs.length = os.length) (hp : H p = none) : Rel K mg (upd H p (.lst vs)) Ex ((.ref p, .lst os) :: rs) ws :=
  (r.new (.lst vs) hp).shut (.lst (os := os)) hl
theorem At.tops {l : Roots} (a : At X H Ex σ g (l ++ T) ws) : Rel X.K X.mg H Ex (l ++ (roots σ g ++ T)) ws := a.rel.perm (by
  rw [← List.append_assoc, ← List.append_assoc]
  exact List.perm_append_comm.append_right _)
/-- a tuple's object is pushed -/
theorem invTup {pins : List (Addr × Obj)} {s : Shared} {xs : List V} {us : List Value} {Q : VK} {t' : Nat} (I : Inv X pins σ H s) (r : Vals xs us) (z : xs.length ≤ sizeLine) (q : TupP H xs Q) :
    EP X pins σ Q (.ref s.heap.objs.size) { s with heap := s.heap.push { cls := .type "tuple", data := .seq us.toArray }, toks := t' } := by
  have fr := I.hok.fresh (Nat.le_refl _)
  have gp := Heap.get?_push_size s.heap (o := { cls := .type "tuple", data := .seq us.toArray }) rfl
  rcases q with q | q
  · exact ⟨.ref _, _, I.laid (t' := t') (fun b u e => Heap.get?_push_of_some _ e) (Nat.le_refl _) (o := .tup xs) ⟨z, us, r, ⟨_, gp, rfl, _, rfl⟩⟩, rfl, q _ fr⟩
  · exact ⟨.ref _, _, I.laid (t' := t') (fun b u e => Heap.get?_push_of_some _ e) (Nat.le_refl _) (o := .frz { cls := .type "tuple", data := .seq us.toArray } (.tup xs)) ⟨gp, z, us, r, ⟨_, gp, rfl, _, rfl⟩⟩, rfl, q _ _ rfl fr⟩
theorem pe_tupE {t : TA} {x1 : Nat} (h : PA X es t) : PE X (.Tuple es x1 pos) (fun σ H Q => t σ H fun xs H1 => xs.length ≤ sizeLine ∧ TupP H1 xs Q) := by
  refine ⟨fun pins s σ H Q I hq => wpAny_Tuple_spliced (thn (h.run pos pins s σ H _ I hq) fun us s1 m => ?_)⟩
  obtain ⟨xs, H1, I1, r, z, q⟩ := m
  exact ⟨by rw [← r.length]; exact z, invTup (t' := s1.toks) I1 r z q⟩
theorem ev_tup {ms : M (List O)} {x1 : Nat} (h : EvEs X W pu es ms) : Ev X W pu (.Tuple es x1 pos) (tupM ms) := by
  obtain ⟨ts, g1, g2⟩ := h.ex
  refine ⟨_, pe_tupE g1.pa, fun σ H Q g T Ex ws a w => ?_⟩
  refine g2 σ H _ g T Ex ws a (w.bd.imp (fun os g' k vs H' hl s a' => ?_) fun _ _ k => k)
  obtain ⟨k1, k⟩ := wpGd k
  refine ⟨hl ▸ lenOk_le k1, a'.tops.newTup hl fun v H1 s1 r1 => k _ _ (fun z => ?_) (.ofTop a'.fit r1)⟩
  obtain ⟨e1, e2⟩ := s z
  exact ⟨e1, e2.trans s1⟩
theorem ev_lst {ms : M (List O)} (h : EvEs X W pu es ms) : Ev X W pu (.List es pos) (lstM ms) := by
  obtain ⟨ts, g1, g2⟩ := h.ex
  refine ⟨_, pe_lst g1.pa, fun σ H Q g T Ex ws a w => ?_⟩
  refine g2 σ H _ g T Ex ws a (w.bd.imp (fun os g' k vs H' hl s a' => ?_) fun _ _ k => k)
  obtain ⟨k1, k⟩ := wpGd k
  refine ⟨hl ▸ lenOk_le k1, fun p hp => k _ _ (fun z => ?_) (.ofTop a'.fit (a'.tops.newLst hl hp))⟩
  obtain ⟨e1, e2⟩ := s z
  exact ⟨e1, e2.trans (sameNew hp _)⟩
def ifM {α : Type} (c : M Bool) (m n : M α) : M α := M.bd c fun b => if b = true then m else n
theorem purTr {g1 g2 : Gs} {H1 H2 : Hp} (s : pu = true → g1 = g ∧ Same H H1) (s2 : pv = true → g2 = g1 ∧ Same H1 H2) (z : (pu && pv) = true) : g2 = g ∧ Same H H2 := by
  have z' := Bool.and_eq_true_iff.mp z
  obtain ⟨e1, e2⟩ := s z'.1
  obtain ⟨e3, e4⟩ := s2 z'.2
  exact ⟨e3.trans e1, e2.trans e4⟩
theorem andL {p q : Bool} : (p && q) = true → p = true := fun z => (Bool.and_eq_true_iff.mp z).1
theorem andR {p q : Bool} : (p && q) = true → q = true := fun z => (Bool.and_eq_true_iff.mp z).2
theorem vsL {p q : Bool} : ∀ r ∈ Vs (p && q) ws, r ∈ Vs p ws := fun r m => by
  unfold Vs at m ⊢
  split at m
  · rw [if_pos (andL (by assumption))]; exact m
  · cases m
def blM (m : M Bool) : M O := M.bd m fun b => M.ret (.d (.bool b))
/-- x and y, of truths -/
def andV (m n : M O) : M O := M.bd (tstM m) fun b => if b = true then n else M.ret (.d (.bool false))
def orV (m n : M O) : M O := M.bd (tstM m) fun b => if b = true then M.ret (.d (.bool true)) else n
section
variable {rest : List Expr} {n : M O}
theorem ev_one {op : BoolOp} (h : Ev X W pu a m) : Ev X W pu (.BoolOp op [a] pos) m := by
  obtain ⟨t, h1, h2⟩ := h.ex
  exact ⟨_, pe_one h1, h2⟩
theorem ev_and (h : Ev X W pu a m) (hb : Ev X W pv (.BoolOp .And (b :: rest) pos) n) : Ev X W (pu && pv) (.BoolOp .And (a :: b :: rest) pos) (andV m n) := by
  obtain ⟨t, h1, h2⟩ := h.ex
  obtain ⟨u, g1, g2⟩ := hb.ex
  refine ⟨_, pe_and h1 g1, fun σ H Q g T Ex ws a w => ?_⟩
  refine h2 σ H _ g T Ex ws a (w.bd.bd.imp (fun o g' k v H' s a' => ?_) fun _ _ k => k)
  obtain ⟨c, e, kk⟩ := wpB k
  clear k
  subst e
  refine ⟨c, a'.top.isB, ?_⟩
  cases c with
  | true => exact iteT (g2 σ H' Q g' T Ex _ a'.drop (kk.imp (fun c g2 k v H2 s2 a2 => k v H2 (fun z => purTr s s2 z) (by rw [vsVs] at a2; exact a2)) fun _ _ k => k))
  | false => exact iteF (kk _ H' (fun z => s (andL z)) ((a'.drop.data fun _ => .bl false).views vsL))
theorem ev_or (h : Ev X W pu a m) (hb : Ev X W pv (.BoolOp .Or (b :: rest) pos) n) : Ev X W (pu && pv) (.BoolOp .Or (a :: b :: rest) pos) (orV m n) := by
  obtain ⟨t, h1, h2⟩ := h.ex
  obtain ⟨u, g1, g2⟩ := hb.ex
  refine ⟨_, pe_or h1 g1, fun σ H Q g T Ex ws a w => ?_⟩
  refine h2 σ H _ g T Ex ws a (w.bd.bd.imp (fun o g' k v H' s a' => ?_) fun _ _ k => k)
  obtain ⟨c, e, kk⟩ := wpB k
  clear k
  subst e
  refine ⟨c, a'.top.isB, ?_⟩
  cases c with
  | false => exact iteF (g2 σ H' Q g' T Ex _ a'.drop (kk.imp (fun c g2 k v H2 s2 a2 => k v H2 (fun z => purTr s s2 z) (by rw [vsVs] at a2; exact a2)) fun _ _ k => k))
  | true => exact iteT (kk _ H' (fun z => s (andL z)) ((a'.drop.data fun _ => .bl true).views vsL))
def notV (m : M O) : M O := M.bd (tstM m) fun b => M.ret (.d (.bool (!b)))
theorem ev_not (h : Ev X W pu a m) : Ev X W pu (.UnaryOp .Not a pos) (notV m) := by
  obtain ⟨t, h1, h2⟩ := h.ex
  refine ⟨_, pe_not h1, fun σ H Q g T Ex ws a w => ?_⟩
  refine h2 σ H _ g T Ex ws a (w.bd.bd.imp (fun o g' k v H' s a' => ?_) fun _ _ k => k)
  obtain ⟨c, e, k⟩ := wpB k
  subst e
  exact ⟨c, a'.top.isB, k _ H' s (a'.drop.data fun _ => .bl _)⟩
end
/-- a < b < c of data: the middle one had -/
def chM (f f' : List O → Option O) (ma mb mc : M O) : M O := M.bd ma fun x => M.bd mb fun y => M.bd (opM f (M.ret [x, y])) fun z => M.bd (asB z) fun k => if k = true then M.bd mc fun u => opM f' (M.ret [y, u]) else M.ret (.d (.bool false))
theorem ev_chain {op op' : CmpOp} {r r' : R2} {f f' : List O → Option O} {c : Expr} {mc : M O} {pw : Bool} (ho : OpR X (compareOp op) r) (ho' : OpR X (compareOp op') r') (pr : PR X (r2L r) f) (pr' : PR X (r2L r') f') (ha : Ev X W pu a ma) (hb : Ev X W pv b mb) (hc : Ev X W pw c mc)
    (hm : lastMarks [op, op'] [b, c] = false) : Ev X W (pu && (pv && pw)) (.Compare a [op, op'] [b, c] pos) (chM f f' ma mb mc) := by
  obtain ⟨ta, a1, a2⟩ := ha.ex
  obtain ⟨tb, b1, b2⟩ := hb.ex
  obtain ⟨tc, c1, c2⟩ := hc.ex
  refine ⟨_, pe_chain ho ho' a1 b1 c1 hm, fun σ H Q g T Ex ws a w => ?_⟩
  refine a2 σ H _ g T Ex ws a (w.bd.imp (fun x g1 k v H1 s a' => ?_) fun _ _ k => k)
  refine b2 σ H1 _ g1 _ Ex _ a' (k.bd.imp (fun y g2 k u H2 s2 a'' => ?_) fun x g2 k H2 cls d a2 => k H2 cls d a2.drop)
  have k := k.bd.bd
  obtain ⟨z, hz, k⟩ := wpLift k
  obtain ⟨q, e, kk⟩ := wpB k.bd
  clear k
  subst e
  have rr := a''.top.see
  have r0 : Rel X.K X.mg H2 Ex ((v, x) :: (u, y) :: (roots σ g2 ++ T)) ((u, y) :: Vs pv (Vs pu ws)) := rr.perm ((List.Perm.cons _ List.perm_middle).trans (.swap _ _ _))
  have r1 : Rel X.K X.mg H2 Ex ((v, x) :: (u, y) :: (roots σ g2 ++ T)) ([v, u].zip [x, y] ++ Vs pv (Vs pu ws)) := r0.see
  refine pr [v, u] [x, y] H2 Ex _ _ _ _ rfl r1 hz fun w1 H3 s3 r3 => ?_
  refine ⟨q, r3.isB, ?_⟩
  have r4 : Rel X.K X.mg H3 Ex ((u, y) :: (roots σ g2 ++ T)) (Vs pv (Vs pu ws)) := (r3.drop.drop).views fun p m => List.mem_append_right _ m
  cases q with
  | true =>
    refine iteT (c2 σ H3 _ g2 _ Ex _ (.ofTop a''.fit r4) (kk.bd.imp (fun o g3 k w2 H4 s4 a4 => ?_) fun x g2 k H2 cls d a2 => k H2 cls d a2.drop))
    obtain ⟨z2, hz2, k⟩ := wpLift k.bd
    have rr := a4.top.see
    have r0 : Rel X.K X.mg H4 Ex ((u, y) :: (w2, o) :: (roots σ g3 ++ T)) ((w2, o) :: Vs pw (Vs pv (Vs pu ws))) := rr.perm ((List.Perm.cons _ List.perm_middle).trans (.swap _ _ _))
    have r1 : Rel X.K X.mg H4 Ex ((u, y) :: (w2, o) :: (roots σ g3 ++ T)) ([u, w2].zip [y, o] ++ Vs pw (Vs pv (Vs pu ws))) := r0.see
    refine pr' [u, w2] [y, o] H4 Ex _ _ _ _ rfl r1 hz2 fun w3 H5 s5 r5 => k w3 H5 (fun t => ?_) (.ofTop a4.fit ?_)
    · obtain ⟨e1, f1⟩ := s (andL t)
      obtain ⟨e2, f2⟩ := s2 (andL (andR t))
      obtain ⟨e3, f3⟩ := s4 (andR (andR t))
      exact ⟨e3.trans (e2.trans e1), f1.trans (f2.trans (s3.trans (f3.trans s5)))⟩
    · have p : ((w3, z2) :: (u, y) :: (w2, o) :: (roots σ g3 ++ T)).Perm ((u, y) :: (w2, o) :: (w3, z2) :: (roots σ g3 ++ T)) := (List.Perm.swap _ _ _).trans (.cons _ (.swap _ _ _))
      refine ((r5.perm p).drop.drop).views fun p m => List.mem_append_right _ ?_
      rw [vsVs, vsVs]
      exact m
  | false =>
    refine iteF (kk _ H3 (fun t => ?_) (.ofTop a''.fit ?_))
    · obtain ⟨e1, f1⟩ := s (andL t)
      obtain ⟨e2, f2⟩ := s2 (andL (andR t))
      exact ⟨e2.trans e1, f1.trans (f2.trans s3)⟩
    · refine (r4.drop.data fun _ => .bl false).views fun p m => ?_
      rw [vsVs]
      rw [← Bool.and_assoc] at m
      exact vsL p m
end
end Z
namespace Z
open PySem PySem.Spec L2
structure RoomG (k : Nat) (A : Around) : Prop where
  r : Room k A
  gd : A.guards = some []
section
variable {j k : Nat} {A : Around}
theorem RoomG.mono (r : RoomG k A) (h : j ≤ k) : RoomG j A := ⟨r.r.mono h, r.gd⟩
theorem RoomG.un (r : RoomG k A) : A.units + 16 * k + 200 < cLine := r.r.un
theorem RoomG.units (r : RoomG k A) : A.units + 64 < cLine := r.r.units
theorem RoomG.hd (r : RoomG k A) : A.handled = none := r.r.hd
theorem RoomG.deeper (r : RoomG (k + 1) A) (env : Env) : RoomG k (A.deeper env) := ⟨r.r.deeper env, r.gd⟩
end
/-- a def does as sp tells, called so -/
structure FnG (P : Program) (w : World) (K : PySem.W.Frag) (mg : Str → Option Value) (base : Heap) (CX : CXT) (k : Nat) (f : Addr) (fd : FuncData) (ps : List Str) (sp : Sp) : Prop where
  len : ∀ vs H Q E, sp vs H Q E → vs.length = ps.length
  run : ∀ (A : Around) (o : List Env) (s : Shared) (H : Hp) (args : Args) (us : List Value) (vs : List V) (Q : VK) (E : XK), RoomG k A → Env0 P w K mg base A o s H → BindsTo s fd args (ps.zip us) → Vals vs us → sp vs H Q E → codeAny (model P w) A (.call (.ref f) args) (CR CX o P w H s Q E) s
theorem FnG.imp {P : Program} {w : World} {K : PySem.W.Frag} {mg : Str → Option Value} {base : Heap} {CX : CXT} {k : Nat} {f : Addr} {fd : FuncData} {ps : List Str} {sp sp' : Sp} (F : FnG P w K mg base CX k f fd ps sp) (h : ∀ vs H Q E, sp' vs H Q E → sp vs H Q E) : FnG P w K mg base CX k f fd ps sp' :=
  ⟨fun vs H Q E q => F.len vs H Q E (h _ _ _ _ q), fun A o s H args us vs Q E hr he hb hv hs => F.run A o s H args us vs Q E hr he hb hv (h _ _ _ _ hs)⟩
section
variable {X : Cx} {CX : CXT} {k : Nat} {f C : Addr} {fd : FuncData} {ps : List Str} {sp : Sp} {E : L2.St → XK} {dvs : List V} {ds : List Value} {x m : Str} {p pos apos : Pos} {e o : Expr} {es : List Expr} {ta : TE} {t : TA}
theorem runS {pins : List (Addr × Obj)} {σ : L2.St} {H : Hp} {s : Shared} {Q : VK} {us : List Value} {vs : List V} (F : FnG X.prog X.w X.K X.mg X.base CX k f fd ps sp) (hr : RoomG k X.A) (hb : L2.Binds X.K fd ps ds) (hd : Vals dvs ds) (hx : PassesAt CX X σ (E σ))
    (I : Inv X pins σ H s) (r : Vals vs us) (h : sp (vs ++ dvs) H Q (E σ)) : wpAny (model X.prog X.w) X.A (call (.ref f) us) (EP X pins σ Q) X.xe s := by
  have r2 : Vals (vs ++ dvs) (us ++ ds) := r.append hd
  have hl : (us ++ ds).length = ps.length := by rw [← r2.length]; exact F.len _ _ _ _ h
  refine wpAny_call (codeAny_mono (F.run X.A X.stack s H ⟨us, []⟩ (us ++ ds) (vs ++ dvs) Q (E σ) hr I.env0 (hb s us I.kIn hl) r2 h) fun r s' hq => ?_)
  cases r with
  | error e => exact hx pins H s e s' I hq
  | ok fl =>
    cases fl with
    | ret u => exact I.after hq
    | next => exact False.elim hq
    | brk => exact False.elim hq
    | cont => exact False.elim hq
def tCalS (sp : Sp) (dvs : List V) (E : L2.St → XK) (t : TA) : TE := fun σ H Q => t σ H fun vs H1 => sp (vs ++ dvs) H1 Q (E σ)
theorem pcS (F : FnG X.prog X.w X.K X.mg X.base CX k f fd ps sp) (hr : RoomG k X.A) (hg : Gl X x) (hm : X.mg x = some (.ref f)) (hk : PySem.W.keepIn X.K (.ref f) = true) (hb : L2.Binds X.K fd ps ds) (hd : Vals dvs ds) (hx : ∀ σ, PassesAt CX X σ (E σ))
    (ha : PA X (e :: es) t) (hdb : (x == ("__debug__" : Str)) = false := by decide) (he : starEach (e :: es) X.env = (false, eval e X.env) :: starEach es X.env := by rfl) (hpl : (backTo pos (starEach es X.env)).any (·.1) = false := by rfl) :
    PE X (.Call (.Name x p) (e :: es) [] pos) (tCalS sp dvs E t) := by
  refine ⟨fun pins s σ H Q I h => ?_⟩
  refine wpAny_Call_Name_kw (ld_glob I hg hm ?_ hdb)
  refine PySem.W.callWith_K (h₀ := X.base) I.ok.mod.kin hk (thn (ha.run pos pins s σ H _ I h) fun us s1 ⟨vs, H1, I1, r, q⟩ => ⟨I1.kIn, ?_⟩) he hpl
  exact runS F hr hb hd (hx σ) I1 r q
end
inductive FRes where
  | ok (r : O) (ps : List O)
  | ex (x : Exn)
  | bad
  | all (f : V → FRes)
abbrev Fn := List O → FRes
def FWR (r : FRes) (A : O → List O → Prop) (B : Exn → Prop) : Prop := match r with
  | .ok r ps => A r ps
  | .ex x => B x
  | .bad => False
  | .all f => ∀ v, FWR (f v) A B
def FW (r : FRes) (A : O → List O → Prop) (B : Exn → Prop) : Prop := match r with
  | .ok r ps => A r ps
  | .ex x => B x
  | .bad => False
  | .all f => ∀ v, FWR (f v) A B
theorem fwR_eq {A : O → List O → Prop} {B : Exn → Prop} : ∀ {r : FRes}, FWR r A B = FW r A B
  | .ok _ _ => rfl
  | .ex _ => rfl
  | .bad => rfl
  | .all _ => rfl
theorem fw_all {f : V → FRes} {A : O → List O → Prop} {B : Exn → Prop} : FW (.all f) A B ↔ ∀ v, FW (f v) A B := forall_congr' fun v => by rw [fwR_eq]
def FRes.resR : FRes → (O → List O → Res O) → Gs → Res O
  | .ok r ps, k, _ => k r ps
  | .ex x, _, g => .ex x g
  | .bad, _, _ => .bad
  | .all f, k, g => .all fun v => (f v).resR k g
def FRes.res (r : FRes) (k : O → List O → Res O) (g : Gs) : Res O := match r with
  | .ok r ps => k r ps
  | .ex x => .ex x g
  | .bad => .bad
  | .all f => .all fun v => (f v).resR k g
theorem FRes.resR_eq {k : O → List O → Res O} {g : Gs} : ∀ {r : FRes}, r.resR k g = r.res k g
  | .ok _ _ => rfl
  | .ex _ => rfl
  | .bad => rfl
  | .all _ => rfl
theorem FRes.wp_res {k : O → List O → Res O} {g : Gs} {A : O → Gs → Prop} {B : Exn → Gs → Prop} : ∀ {r : FRes}, Wp (r.res k g) A B ↔ FW r (fun o ps => Wp (k o ps) A B) (fun x => B x g)
  | .ok r ps => Iff.rfl
  | .ex x => Iff.rfl
  | .bad => Iff.rfl
  | .all f => wp_all.trans ((forall_congr' fun v => by rw [FRes.resR_eq]; exact FRes.wp_res (r := f v)).trans fw_all.symm)
theorem FW.imp {A A' : O → List O → Prop} {B B' : Exn → Prop} : ∀ {r : FRes}, FW r A B → (∀ a e, A a e → A' a e) → (∀ x, B x → B' x) → FW r A' B'
  | .ok o ps, h, ha, hb => ha _ _ h
  | .ex x, h, ha, hb => hb _ h
  | .bad, h, ha, hb => h
  | .all f, h, ha, hb => fw_all.mpr fun v => FW.imp (r := f v) (fw_all.mp h v) ha hb
def spF (K : PySem.W.Frag) (mg : Str → Option Value) (np : Nat) (f : Fn) : Sp := fun vs H Q E => vs.length = np ∧ ∃ (os : List O) (Ex : List (Addr × HO)) (T : Roots), os.length = np ∧ Rel K mg H Ex (vs.zip os ++ T) [] ∧
  FW (f os) (fun r ps => ps.length = np ∧ ∀ v H', Rel K mg H' Ex ((v, r) :: (vs.zip ps ++ T)) [] → Q v H') (fun x => ∀ H' cls d, Rel K mg H' Ex T [] → ExAt mg Ex cls d H' x → E cls d H')
/-- a def of the module, called by its name; ds: its last parameters' defaults, by how many are not given -/
structure Callee (P : Program) (w : World) (K : PySem.W.Frag) (mg : Str → Option Value) (base : Heap) (x : Str) (k np : Nat) (dfs : List PyData) (f : Fn) : Prop where
  ex : ∃ (a : Addr) (fd : FuncData) (ps : List Str) (dvs : List V) (ds : List Value), FnG P w K mg base (L2.CX P w) k a fd ps (spF K mg np f) ∧ mg x = some (.ref a) ∧ PySem.W.keepIn K (.ref a) = true ∧ L2.Binds K fd ps ds ∧ Vals dvs ds ∧ ∀ Hf, DpAll K Hf dvs dfs
/-- what a body stands on -/
structure Cc (X : Cx) (W : WX) (k : Nat) : Prop where
  tk : Takes X W
  hr : RoomG k X.A
  calm : X.calm = true
  nd : X.N.Nodup
  own : PySem.PassesOwn (model X.prog X.w) X.A X.env X.xe
inductive Arg where
  | sl (i : Nat)
  | val (o : O)
def valR : List V → List Arg → Roots
  | v :: vs, .val o :: as => (v, o) :: valR vs as
  | _ :: vs, .sl _ :: as => valR vs as
  | _, _ => []
def SlOk (σ : L2.St) : List V → List Arg → Prop
  | v :: vs, .val _ :: as => SlOk σ vs as
  | v :: vs, .sl i :: as => σ[i]? = some (some v) ∧ SlOk σ vs as
  | [], [] => True
  | _, _ => False
def takeA : List Arg → Gs → Option (List O × Gs)
  | [], g => some ([], g)
  | .val o :: r, g => match takeA r g with
    | some (os, g') => some (o :: os, g')
    | none => none
  | .sl i :: r, g => match g[i]? with
    | some (some (.d x)) => match takeA r g with
      | some (os, g') => some (.d x :: os, g')
      | none => none
    | some (some o) => match takeA r (g.set i none) with
      | some (os, g') => some (o :: os, g')
      | none => none
    | _ => none
def giveA : List Arg → List O → Gs → Gs
  | .sl i :: r, o :: os, g => giveA r os (match g[i]? with
    | some none => g.set i (some o)
    | _ => g)
  | .val _ :: r, _ :: os, g => giveA r os g
  | _, _, g => g
section
variable {X : Cx} {W : WX} {pu pv : Bool} {H H' : Hp} {Ex : List (Addr × HO)} {σ : L2.St} {g : Gs} {T T' ws ws' : Roots} {e a b : Expr} {es : List Expr} {m : M O} {pos : Pos}
structure EvU (X : Cx) (W : WX) (es : List Expr) (m : M (List Arg)) : Prop where
  ex : ∃ ts, PEs X es ts ∧ ∀ (σ : L2.St) (H : Hp) (Q : List V → Hp → Prop) (g : Gs) (T : Roots) (Ex : List (Addr × HO)) (ws : Roots), At X H Ex σ g T ws →
    Wp (m g) (fun as g' => ∀ vs H', vs.length = es.length → SlOk σ vs as → At X H' Ex σ g' (valR vs as ++ T) [] → Q vs H')
      (fun x g' => ∀ H' cls d, At X H' Ex σ g' T [] → ExAt X.mg Ex cls d H' x → W cls d σ H') → tAll ts σ H Q
theorem At.noV (a : At X H Ex σ g T ws) : At X H Ex σ g T [] := a.views fun _ h => nomatch h
theorem eu_nil : EvU X W [] (M.ret []) := ⟨[], .nil, fun σ H Q g T Ex ws a w => w [] H rfl trivial a.noV⟩
def valA (m : M O) (ms : M (List Arg)) : M (List Arg) := M.bd m fun o => M.bd ms fun as => M.ret (.val o :: as)
def slA (i : Nat) (ms : M (List Arg)) : M (List Arg) := M.bd ms fun as => M.ret (.sl i :: as)
theorem eu_val {ms : M (List Arg)} (h : Ev X W pu e m) (hs : EvU X W es ms) (st : starEach (e :: es) X.env = (false, eval e X.env) :: starEach es X.env := by rfl) : EvU X W (e :: es) (valA m ms) := by
  obtain ⟨t, h1, h2⟩ := h.ex
  obtain ⟨ts, g1, g2⟩ := hs.ex
  refine ⟨t :: ts, .cons h1 st g1, fun σ H Q g T Ex ws a w => ?_⟩
  refine h2 σ H _ g T Ex ws a (w.bd.imp (fun o g' k v H' s a' => ?_) fun _ _ k => k)
  refine g2 σ H' _ g' _ Ex _ a' (k.bd.imp (fun as g2 k vs H2 hl sl a2 => ?_) fun x g2 k H2 cls d a2 => k H2 cls d a2.drop)
  exact k (v :: vs) H2 (by simp [hl]) sl (a2.perm permIn)
def slIn (i : Nat) (ms : M (List Arg)) : M (List Arg) := fun g => match g[i]? with
  | some (some _) => slA i ms g
  | _ => .bad
theorem eu_sl (i : Nat) {ms : M (List Arg)} {x : Str} (hs : EvU X W es ms) (hN : X.N[i]? = some x := by rfl) (hv : Vis X.env.scope x := by first | exact Or.inl rfl | exact Or.inr (Or.inl rfl) | exact Or.inr (Or.inr rfl)) (hd : (x == ("__debug__" : Str)) = false := by decide)
    (hcd : (x == ("__classdict__" : Str)) = false := by decide) (st : starEach (.Name x pos :: es) X.env = (false, eval (.Name x pos) X.env) :: starEach es X.env := by rfl) : EvU X W (.Name x pos :: es) (slIn i ms) := by
  obtain ⟨ts, g1, g2⟩ := hs.ex
  refine ⟨_ :: ts, .cons (pv i hN hv hd hcd) st g1, fun σ H Q g T Ex ws a w => ?_⟩
  unfold slIn at w
  split at w
  · rename_i o hg
    obtain ⟨v, hv⟩ := a.fit.at_ _ _ hg
    refine ⟨v, hv, ?_⟩
    exact g2 σ H _ g _ Ex _ a (w.bd.imp (fun as g2 k vs H2 hl sl a2 => k (v :: vs) H2 (by simp [hl]) ⟨hv, sl⟩ a2) fun x g2 k H2 cls d a2 => k H2 cls d a2)
  · exact w.elim
theorem takeRel {as : List Arg} : ∀ {vs : List V} {g g' : Gs} {os : List O}, SlOk σ vs as → Fit σ g → Rel X.K X.mg H Ex (roots σ g ++ (valR vs as ++ T)) [] → takeA as g = some (os, g') →
    vs.length = os.length ∧ Fit σ g' ∧ Rel X.K X.mg H Ex (roots σ g' ++ (vs.zip os ++ T)) [] := by
  induction as generalizing T with
  | nil =>
    intro vs g g' os sl f r h
    cases vs with
    | nil =>
      simp only [takeA, Option.some.injEq, Prod.mk.injEq] at h
      obtain ⟨rfl, rfl⟩ := h
      exact ⟨rfl, f, r⟩
    | cons v vs => exact sl.elim
  | cons c r ih =>
    intro vs g g' os sl f rl h
    cases vs with
    | nil => cases c <;> exact sl.elim
    | cons v vs =>
      cases c with
      | val o =>
        simp only [takeA] at h
        cases q : takeA r g with
        | none => rw [q] at h; cases h
        | some p =>
          obtain ⟨os1, g1⟩ := p
          rw [q] at h
          cases h
          have rl' : Rel X.K X.mg H Ex (roots σ g ++ (valR vs r ++ ((v, o) :: T))) [] := rl.perm ((permIn (p := (v, o)) (l := valR vs r) (T := T)).symm.append_left _)
          obtain ⟨h1, h2, h3⟩ := ih (T := (v, o) :: T) (vs := vs) sl f rl' q
          exact ⟨by simp [h1], h2, h3.perm (permIn.append_left _)⟩
      | sl i =>
        obtain ⟨hv, sl⟩ := sl
        simp only [takeA] at h
        split at h
        · rename_i x hg
          cases q : takeA r g with
          | none => rw [q] at h; cases h
          | some p =>
            obtain ⟨os1, g1⟩ := p
            rw [q] at h
            cases h
            have a : At X H Ex σ g (valR vs r ++ T) [] := ⟨f, rl⟩
            have rl' : Rel X.K X.mg H Ex (roots σ g ++ (valR vs r ++ ((v, .d x) :: T))) [] := (a.rd hg hv).rel.perm (List.perm_middle.symm.append_left _)
            obtain ⟨h1, h2, h3⟩ := ih (T := (v, .d x) :: T) (vs := vs) sl f rl' q
            exact ⟨by simp [h1], h2, h3.perm (permIn.append_left _)⟩
        · rename_i o hno hg
          cases q : takeA r (g.set i none) with
          | none => rw [q] at h; cases h
          | some p =>
            obtain ⟨os1, g1⟩ := p
            rw [q] at h
            cases h
            have a : At X H Ex σ g (valR vs r ++ T) [] := ⟨f, rl⟩
            have r2 := a.get hg hv
            have rl' : Rel X.K X.mg H Ex (roots σ (g.set i none) ++ (valR vs r ++ ((v, o) :: T))) [] := by
              refine r2.perm ?_
              exact (List.perm_middle (l₁ := roots σ (g.set i none)) (a := (v, o)) (l₂ := valR vs r ++ T)).symm.trans (List.perm_middle.symm.append_left _)
            obtain ⟨h1, h2, h3⟩ := ih (T := (v, o) :: T) (vs := vs) sl (f.clr i) rl' q
            exact ⟨by simp [h1], h2, h3.perm (permIn.append_left _)⟩
        · cases h
theorem giveRel {as : List Arg} : ∀ {vs : List V} {g : Gs} {os : List O}, SlOk σ vs as → vs.length = os.length → Fit σ g → Rel X.K X.mg H Ex (roots σ g ++ (vs.zip os ++ T)) [] → At X H Ex σ (giveA as os g) T [] := by
  induction as generalizing T with
  | nil =>
    intro vs g os sl hl f r
    cases vs with
    | nil => exact ⟨f, r⟩
    | cons v vs => exact sl.elim
  | cons c r ih =>
    intro vs g os sl hl f rl
    cases vs with
    | nil => cases c <;> exact sl.elim
    | cons v vs =>
      cases os with
      | nil => simp at hl
      | cons o os =>
        have hl' : vs.length = os.length := by simpa using hl
        have rl1 : Rel X.K X.mg H Ex ((v, o) :: (roots σ g ++ (vs.zip os ++ T))) [] := rl.perm List.perm_middle
        cases c with
        | val o' => exact ih (vs := vs) sl hl' f rl1.drop
        | sl i =>
          obtain ⟨hv, sl⟩ := sl
          simp only [giveA]
          split
          · rename_i hg
            have e : g.set i none = g := setNone (by intro o; rw [hg]; simp)
            have a : At X H Ex σ (g.set i (some o)) (vs.zip os ++ T) [] := .put f hv (by rw [e]; exact rl1)
            exact ih (vs := vs) sl hl' a.fit a.rel
          · exact ih (vs := vs) sl hl' f rl1.drop
/-- a call: owned values of names are lent and come back as they are left -/
def callM (f : Fn) (dfs : List PyData) (ms : M (List Arg)) : M O := M.bd ms fun as g => match takeA as g with
  | some (os, g') => (f (os ++ dfs.map O.d)).res (fun r ps => if ps.length = (os ++ dfs.map O.d).length then .ok r (giveA as (ps.take os.length) g') else .bad) g'
  | none => .bad
theorem relDfs {K : PySem.W.Frag} {mg : Str → Option Value} {rs : Roots} : ∀ {dvs : List V} {dfs : List PyData}, (∀ Hf, DpAll K Hf dvs dfs) → Rel K mg H Ex rs ws → Rel K mg H Ex (dvs.zip (dfs.map O.d) ++ rs) ws ∧ dvs.length = dfs.length
  | [], [], _, r => ⟨r, rfl⟩
  | [], _ :: _, h, _ => by cases h (fun _ => none)
  | _ :: _, [], h, _ => by cases h (fun _ => none)
  | v :: dvs, x :: dfs, h, r => by
    have h1 : ∀ Hf, Dp K Hf v x := fun Hf => by cases h Hf with | cons a b => exact a
    have h2 : ∀ Hf, DpAll K Hf dvs dfs := fun Hf => by cases h Hf with | cons a b => exact b
    obtain ⟨q, l⟩ := relDfs h2 r
    exact ⟨q.data h1, by simp [l]⟩
theorem callCore {f : Fn} {dfs : List PyData} {dvs : List V} {as : List Arg} {vs : List V} {np : Nat} {Q : VK} (hd : ∀ Hf, DpAll X.K Hf dvs dfs) (sl : SlOk σ vs as) (a : At X H Ex σ g (valR vs as ++ T) []) (hn : (vs ++ dvs).length = np)
    (w : Wp ((fun g => match takeA as g with
      | some (os, g') => (f (os ++ dfs.map O.d)).res (fun r ps => if ps.length = (os ++ dfs.map O.d).length then .ok r (giveA as (ps.take os.length) g') else .bad) g'
      | none => .bad : M O) g) (fun o g' => ∀ v H', At X H' Ex σ g' ((v, o) :: T) [] → Q v H') (fun x g' => ∀ H' cls d, At X H' Ex σ g' T [] → ExAt X.mg Ex cls d H' x → W cls d σ H')) :
    spF X.K X.mg np f (vs ++ dvs) H Q (WE W σ) := by
  refine ⟨hn, ?_⟩
  simp only at w
  cases q : takeA as g with
  | none => rw [q] at w; exact w.elim
  | some p =>
    obtain ⟨os, g'⟩ := p
    rw [q] at w
    simp only at w
    obtain ⟨h1, h2, h3⟩ := takeRel sl a.fit a.rel q
    obtain ⟨h4, h5⟩ := relDfs hd h3
    have hz : (vs ++ dvs).zip (os ++ dfs.map O.d) = vs.zip os ++ dvs.zip (dfs.map O.d) := List.zip_append h1
    have hlen : (os ++ dfs.map O.d).length = np := by rw [← hn]; simp [h1, h5]
    refine ⟨os ++ dfs.map O.d, Ex, roots σ g' ++ T, hlen, ?_, ?_⟩
    · rw [hz, List.append_assoc]
      exact h4.perm (((List.perm_append_comm_assoc _ _ _).append_left _).trans (List.perm_append_comm_assoc _ _ _))
    · refine (FRes.wp_res.mp w).imp (fun r ps w => ?_) (fun x w => ?_)
      rotate_left
      · intro H' cls d r2 xa
        exact w H' cls d ⟨h2, r2⟩ xa
      · by_cases hps : ps.length = (os ++ dfs.map O.d).length
        · simp only [hps, if_true] at w
          rw [hlen] at hps
          refine ⟨hps, fun v H' r2 => ?_⟩
          have e1 : ps = ps.take os.length ++ ps.drop os.length := (List.take_append_drop _ _).symm
          have hl2 : vs.length = (ps.take os.length).length := by
            rw [List.length_take, hps, ← hlen, h1]
            simp
          have hz2 : (vs ++ dvs).zip ps = vs.zip (ps.take os.length) ++ dvs.zip (ps.drop os.length) := by
            conv => lhs; rw [e1]
            exact List.zip_append hl2
          rw [hz2] at r2
          refine w v H' ?_
          refine giveRel (T := (v, r) :: T) sl hl2 h2 ?_
          have r3 : Rel X.K X.mg H' Ex (dvs.zip (ps.drop os.length) ++ (roots σ g' ++ (vs.zip (ps.take os.length) ++ (v, r) :: T))) [] := by
            refine r2.perm (List.Perm.symm ?_)
            rw [List.append_assoc]
            refine ((List.perm_middle.append_left _).append_left _).trans ?_
            refine (List.perm_middle.append_left _).trans ?_
            refine List.perm_middle.trans (.cons _ ?_)
            exact ((List.perm_append_comm_assoc _ _ _).append_left _).trans (List.perm_append_comm_assoc _ _ _)
          exact r3.dropL
        · simp only [hps, if_false] at w
          exact w.elim
end
end Z
namespace Z
open PySem PySem.Spec L2
section
variable {X : Cx} {W : WX} {pu pv : Bool} {H H' : Hp} {Ex : List (Addr × HO)} {σ σ' : L2.St} {g : Gs} {T T' ws ws' : Roots} {e a b o : Expr} {es : List Expr} {m : M O} {pos p apos : Pos} {k j np : Nat} {x : Str} {dfs : List PyData} {f : Fn} {ms : M (List Arg)}
theorem dpLen {K : PySem.W.Frag} {Hf : Hp} : ∀ {vs : List V} {ds : List PyData}, DpAll K Hf vs ds → vs.length = ds.length
  | _, _, .nil => rfl
  | _, _, .cons _ t => by simp [dpLen t]
theorem Wp.rt {α : Type} {x : α} {A : α → Gs → Prop} {B : Exn → Gs → Prop} (h : Wp (M.ret x g) A B) : A x g := h
theorem ev_call (c : Cc X W k) (cal : Callee X.prog X.w X.K X.mg X.base x j np dfs f) (hj : j ≤ k) (hg : Gl X x) (h : EvU X W (e :: es) ms) (hn : (e :: es).length + dfs.length = np := by rfl)
    (hdb : (x == ("__debug__" : Str)) = false := by decide) (he : starEach (e :: es) X.env = (false, eval e X.env) :: starEach es X.env := by rfl) (hpl : (backTo pos (starEach es X.env)).any (·.1) = false := by rfl) :
    Ev X W false (.Call (.Name x p) (e :: es) [] pos) (callM f dfs ms) := by
  obtain ⟨C, fd, ps, dvs, ds, F, hm, hk, hb, hd, hdd⟩ := cal.ex
  obtain ⟨ts, g1, g2⟩ := h.ex
  refine ⟨_, pcS F (c.hr.mono hj) hg hm hk hb hd (fun σ => passAt c.tk σ) g1.pa hdb he hpl, fun σ H Q g T Ex ws a w => ?_⟩
  refine g2 σ H _ g T Ex ws a (w.bd.imp (fun as g' k vs H' hl sl a' => ?_) fun _ _ k => k)
  refine callCore hdd sl a' (by rw [List.length_append, hl, dpLen (hdd fun _ => none)]; exact hn) (k.imp (fun o g2 k v H2 a2 => k v H2 (fun z => by cases z) a2) fun _ _ k => k)
def noKey {α : Type} (m : Str) (fs : List (Str × α)) : Bool := !((fs.map (·.1)).contains m)
inductive Fl where
  | next
  | ret (o : O)
  | brk
  | cnt
def Pin (np : Nat) (σ σ' : L2.St) : Prop := ∀ i, i < np → σ'[i]? = σ[i]?
theorem Pin.refl {σ : L2.St} : Pin np σ σ := fun _ _ => rfl
theorem Pin.trans {σ σ1 σ2 : L2.St} (a : Pin np σ σ1) (b : Pin np σ1 σ2) : Pin np σ σ2 := fun i h => (b i h).trans (a i h)
theorem Pin.set {σ : L2.St} {i : Nat} {v : Option V} (h : np ≤ i) : Pin np σ (σ.set i v) := fun j hj => List.getElem?_set_ne (by omega)
def SPost (X : Cx) (np : Nat) (σ : L2.St) (T : Roots) (Ex : List (Addr × HO)) (D : Ends) : Fl → Gs → Prop
  | .next, g' => ∀ σ' H', Pin np σ σ' → At X H' Ex σ' g' T [] → D.nx σ' H'
  | .ret o, g' => ∀ v σ' H', Pin np σ σ' → At X H' Ex σ' g' ((v, o) :: T) [] → D.rt v H'
  | .brk, g' => ∀ σ' H', Pin np σ σ' → At X H' Ex σ' g' T [] → D.bk σ' H'
  | .cnt, g' => ∀ σ' H', Pin np σ σ' → At X H' Ex σ' g' T [] → D.ct σ' H'
def XPost (X : Cx) (W : WX) (np : Nat) (σ : L2.St) (T : Roots) (Ex : List (Addr × HO)) : Exn → Gs → Prop :=
  fun x g' => ∀ σ' H' cls d, Pin np σ σ' → At X H' Ex σ' g' T [] → ExAt X.mg Ex cls d H' x → W cls d σ' H'
structure EvS (X : Cx) (W : WX) (np : Nat) (st : Stmt) (m : M Fl) : Prop where
  ex : ∃ t, PS X st t ∧ ∀ (σ : L2.St) (H : Hp) (D : Ends) (g : Gs) (T : Roots) (Ex : List (Addr × HO)), At X H Ex σ g T [] → Wp (m g) (SPost X np σ T Ex D) (XPost X W np σ T Ex) → t D σ H
structure EvSs (X : Cx) (W : WX) (np : Nat) (st : List Stmt) (m : M Fl) : Prop where
  ex : ∃ t, PSs X st t ∧ ∀ (σ : L2.St) (H : Hp) (D : Ends) (g : Gs) (T : Roots) (Ex : List (Addr × HO)), At X H Ex σ g T [] → Wp (m g) (SPost X np σ T Ex D) (XPost X W np σ T Ex) → t D σ H
theorem SPost.pin {D : Ends} {fl : Fl} {g' : Gs} {σ1 : L2.St} (h : SPost X np σ T Ex D fl g') (p : Pin np σ σ1) : SPost X np σ1 T Ex D fl g' := by
  cases fl with
  | next => exact fun σ' H' q a => h σ' H' (p.trans q) a
  | ret o => exact fun v σ' H' q a => h v σ' H' (p.trans q) a
  | brk => exact fun σ' H' q a => h σ' H' (p.trans q) a
  | cnt => exact fun σ' H' q a => h σ' H' (p.trans q) a
theorem XPost.pin {x : Exn} {g' : Gs} {σ1 : L2.St} (h : XPost X W np σ T Ex x g') (p : Pin np σ σ1) : XPost X W np σ1 T Ex x g' := fun σ' H' cls d q a e => h σ' H' cls d (p.trans q) a e
section
variable {st : Stmt} {rest : List Stmt} {ma mb : M Fl} {mo : M O}
theorem ess_nil : EvSs X W np [] (M.ret .next) := ⟨_, pss_nil, fun σ H D g T Ex a w => w σ H .refl a⟩
def seqM (m n : M Fl) : M Fl := M.bd m fun fl => match fl with
  | .next => n
  | .ret o => M.ret (.ret o)
  | .brk => M.ret .brk
  | .cnt => M.ret .cnt
theorem ess_one (h : EvS X W np st ma) : EvSs X W np [st] ma := by
  obtain ⟨t, h1, h2⟩ := h.ex
  exact ⟨t, pss_one h1, h2⟩
theorem ess_cons (h : EvS X W np st ma) (hs : EvSs X W np rest mb) : EvSs X W np (st :: rest) (seqM ma mb) := by
  obtain ⟨t, h1, h2⟩ := h.ex
  obtain ⟨u, g1, g2⟩ := hs.ex
  refine ⟨_, pss_cons h1 g1, fun σ H D g T Ex a w => h2 σ H _ g T Ex a (w.bd.imp (fun fl g' k => ?_) fun x g' k => k)⟩
  cases fl with
  | next => exact fun σ' H' p a' => g2 σ' H' D g' T Ex a' (k.imp (fun fl g2 k => k.pin p) fun x g2 k => k.pin p)
  | ret o => exact k
  | brk => exact k
  | cnt => exact k
def retM (m : M O) : M Fl := M.bd m fun o => M.ret (.ret o)
theorem es_ret (h : Ev X W pu e mo) : EvS X W np (.Return (some e) pos) (retM mo) := by
  obtain ⟨t, h1, h2⟩ := h.ex
  exact ⟨_, ps_ret h1, fun σ H D g T Ex a w => h2 σ H _ g T Ex [] a (w.bd.imp (fun o g' k v H' s a' => k v σ H' .refl a'.noV) fun x g' k H' cls d a' e => k σ H' cls d .refl a' e)⟩
def dropM (m : M O) : M Fl := M.bd m fun _ => M.ret .next
theorem es_expr (h : Ev X W pu e mo) (hs : swapsWith e none pos.line X.env = pure false := by rfl) : EvS X W np (.Expr e pos) (dropM mo) := by
  obtain ⟨t, h1, h2⟩ := h.ex
  exact ⟨_, ps_expr h1 hs, fun σ H D g T Ex a w => h2 σ H _ g T Ex [] a (w.bd.imp (fun o g' k v H' s a' => k σ H' .refl a'.drop.noV) fun x g' k H' cls d a' e => k σ H' cls d .refl a' e)⟩
theorem es_if {c : Expr} {A B : List Stmt} {mc : M Bool} (hc : EvT X W pu c mc) (ha : EvSs X W np A ma) (hb : EvSs X W np B mb) : EvS X W np (.If c A B pos) (ifM mc ma mb) := by
  obtain ⟨tc, c1, c2⟩ := hc.ex
  obtain ⟨ta, a1, a2⟩ := ha.ex
  obtain ⟨tb, b1, b2⟩ := hb.ex
  refine ⟨_, ps_if c1 a1 b1, fun σ H D g T Ex a w => c2 σ H _ g T Ex [] a (w.bd.imp (fun c g' k H' s a' => ?_) fun x g' k H' cls d a' e => k σ H' cls d .refl a' e)⟩
  cases c with
  | true => exact iteT (a2 σ H' D g' T Ex a'.noV k)
  | false => exact iteF (b2 σ H' D g' T Ex a'.noV k)
structure EvG (X : Cx) (W : WX) (np : Nat) (tg : Expr) (f : O → M Unit) : Prop where
  ex : ∃ t, PG X tg t ∧ ∀ (σ : L2.St) (H : Hp) (Q : L2.St → Hp → Prop) (g : Gs) (T : Roots) (Ex : List (Addr × HO)) (v : V) (o : O), At X H Ex σ g ((v, o) :: T) [] →
    Wp (f o g) (fun _ g' => ∀ σ' H', Pin np σ σ' → At X H' Ex σ' g' T [] → Q σ' H') (XPost X W np σ T Ex) → t v σ H Q
def setM (i : Nat) (o : O) : M Unit := fun g => .ok () (g.set i (some o))
theorem At.store {i : Nat} {v : V} {o : O} (a : At X H Ex σ g ((v, o) :: T) ws) (hi : i < σ.length) : At X H Ex (σ.set i (some v)) (g.set i (some o)) T ws := ⟨a.fit.set i v (some o), a.rel.setAt a.fit hi⟩
theorem At.storeAny {i : Nat} {v : V} {o : O} (a : At X H Ex σ g ((v, o) :: T) ws) : At X H Ex (σ.set i (some v)) (g.set i (some o)) T ws := by
  by_cases hi : i < σ.length
  · exact a.store hi
  · have e1 : σ.set i (some v) = σ := List.set_eq_of_length_le (by omega)
    have e2 : g.set i (some o) = g := List.set_eq_of_length_le (by rw [← a.fit.len]; omega)
    rw [e1, e2]
    exact a.drop
theorem eg_name (i : Nat) {x : Str} (hnp : np ≤ i) (hN : X.N.Nodup) (hi : X.N[i]? = some x) (hx : Loc X.env.scope x) (hf : X.fn x = true ∨ X.env.scope.names.lookup x = some .local := by first | exact .inl rfl | exact .inr rfl | assumption) : EvG X W np (.Name x pos) (setM i) :=
  ⟨_, pg_name hN hi hx hf, fun σ H Q g T Ex v o a w => w _ _ (Pin.set hnp) a.storeAny⟩
def asgM (m : M O) (f : O → M Unit) : M Fl := M.bd m fun o => M.bd (f o) fun _ => M.ret .next
theorem es_set (i : Nat) {x : Str} {pos' : Pos} (hnp : np ≤ i) (hN : X.N.Nodup) (hi : X.N[i]? = some x) (hx : Loc X.env.scope x) (h : Ev X W pu e mo) (hs : swapsWith e (some (.Name x pos')) pos.line X.env = pure false := by rfl) (hf : X.fn x = true ∨ X.env.scope.names.lookup x = some .local := by first | exact .inl rfl | exact .inr rfl | assumption) :
    EvS X W np (.Assign [.Name x pos'] e pos) (asgM mo (setM i)) := by
  obtain ⟨t, h1, h2⟩ := h.ex
  exact ⟨_, ps_set hN hi hx h1 hs hf, fun σ H D g T Ex a w => h2 σ H _ g T Ex [] a (w.bd.imp (fun o g' k v H' s a' => k _ H' (Pin.set hnp) a'.noV.storeAny) fun x g' k H' cls d a' e => k σ H' cls d .refl a' e)⟩
theorem es_asg {tg : Expr} {f : O → M Unit} (h : Ev X W pu e mo) (hg : EvG X W np tg f) (hs : swapsWithSole [tg] e pos.line X.env = pure false := by rfl) (hw : swappedStores [tg] e X.env = pure none := by rfl)
    (h1 : (assignEach [tg] X.env).map (·.2) = [assign tg X.env] := by rfl) : EvS X W np (.Assign [tg] e pos) (asgM mo f) := by
  obtain ⟨t, c1, c2⟩ := h.ex
  obtain ⟨u, d1, d2⟩ := hg.ex
  refine ⟨_, ps_asg c1 d1 hs hw h1, fun σ H D g T Ex a w => c2 σ H _ g T Ex [] a (w.bd.imp (fun o g' k v H' s a' => ?_) fun x g' k H' cls d a' e => k σ H' cls d .refl a' e)⟩
  refine d2 σ H' _ g' T Ex v o a'.noV ?_
  exact k.bd
end
end
end Z
namespace Z
open PySem PySem.Spec L2
section
variable {X : Cx} {W : WX} {pu pv pw : Bool} {H H' : Hp} {Ex : List (Addr × HO)} {σ σ' : L2.St} {g : Gs} {T T' ws ws' : Roots} {e a b o : Expr} {es : List Expr} {m : M O} {pos p apos : Pos} {k j np : Nat} {x : Str}
structure EvGs (X : Cx) (np : Nat) (ts : List Expr) (f : List PyData → M Unit) : Prop where
  ex : ∃ t, PGs X ts t ∧ ∀ (σ : L2.St) (H : Hp) (Q : L2.St → Hp → Prop) (g : Gs) (T : Roots) (Ex : List (Addr × HO)) (vs : List V) (ds : List PyData) (B : Exn → Gs → Prop), vs.length = ds.length → At X H Ex σ g (vs.zip (ds.map O.d) ++ T) [] →
    Wp (f ds g) (fun _ g' => ∀ σ' H', Pin np σ σ' → At X H' Ex σ' g' T [] → Q σ' H') B → t vs σ H Q
def nilG : List PyData → M Unit
  | [] => M.ret ()
  | _ => M.no
def consG (i : Nat) (f : List PyData → M Unit) : List PyData → M Unit
  | x :: r => M.bd (setM i (.d x)) fun _ => f r
  | _ => M.no
theorem egs_nil : EvGs X np [] nilG := ⟨_, pgs_nil, fun σ H Q g T Ex vs ds B hl a w => by
  cases ds with
  | nil =>
    cases vs with
    | nil => exact ⟨rfl, w σ H .refl a⟩
    | cons v vs => simp at hl
  | cons x r => exact w.elim⟩
theorem egs_cons (i : Nat) {x : Str} {f : List PyData → M Unit} (hnp : np ≤ i) (hN : X.N.Nodup) (hi : X.N[i]? = some x) (hx : Loc X.env.scope x) (hs : EvGs X np es f) (hf : X.fn x = true ∨ X.env.scope.names.lookup x = some .local := by first | exact .inl rfl | exact .inr rfl | assumption)
    (hst : (assignEach (.Name x pos :: es) X.env).map (·.2) = assign (.Name x pos) X.env :: (assignEach es X.env).map (·.2) := by rfl) : EvGs X np (.Name x pos :: es) (consG i f) := by
  obtain ⟨u, g1, g2⟩ := hs.ex
  refine ⟨_, pgs_cons (pg_name hN hi hx hf) g1 hst, fun σ H Q g T Ex vs ds B hl a w => ?_⟩
  cases ds with
  | nil => exact w.elim
  | cons y r =>
    cases vs with
    | nil => simp at hl
    | cons v vs =>
      have w' : Wp (f r (g.set i (some (.d y)))) _ _ := w
      exact ⟨v, vs, rfl, g2 _ H _ _ T Ex vs r B (by simpa using hl) (At.storeAny a) (w'.imp (fun _ g' k σ' H' p a' => k σ' H' ((Pin.set hnp).trans p) a') fun _ _ k => k)⟩
def tupG (f : List PyData → M Unit) : O → M Unit
  | .d (.tuple ds) => f ds
  | _ => M.no
theorem Rel.isTup {K : PySem.W.Frag} {mg : Str → Option Value} {rs : Roots} {v : V} {ds : List PyData} (r : Rel K mg H Ex ((v, .d (.tuple ds)) :: rs) ws) : ∃ a vs, v = .ref a ∧ SqT K H a vs ∧ vs.length = ds.length ∧ Rel K mg H Ex (vs.zip (ds.map O.d) ++ rs) ws := by
  obtain ⟨Hf, as, s, he, ho, nd, hn, hw⟩ := r.ex
  cases ho with
  | cons h t =>
    cases h with
    | d h =>
      obtain ⟨a, vs, rfl, h1, h2⟩ := dpTup h
      · have hl := dpLen h2
        refine ⟨a, vs, rfl, sameT s.same h1, hl, ⟨Hf, _, s, he, ?_, nd, hn, hw⟩⟩
        have all : ∀ {vs : List V} {ds : List PyData}, DpAll K Hf.h vs ds → OwL K mg Hf H vs (ds.map O.d) [] := by
          intro vs
          induction vs with
          | nil => intro ds h; cases h; exact .nil
          | cons v vs ih => intro ds h; cases h with | cons p q => exact .cons (as := []) (bs := []) (.d p) (ih q)
        obtain ⟨z1, z2⟩ := zipMap (l := vs) (m := ds.map O.d) (by simpa using hl)
        rw [List.map_append, List.map_append, z1, z2]
        exact owLApp (all h2) t
theorem eg_tup {kk : Nat} {f : List PyData → M Unit} {n : Nat} (hc : X.calm = true) (h : EvGs X np es f) (hn : (assignEach es X.env).length = n := by rfl) (hst : (assignEach es X.env).findIdx? (·.1) = none := by rfl)
    (hb : ∀ ds g, ds.length ≠ n → f ds g = .bad) : EvG X W np (.Tuple es kk pos) (tupG f) := by
  obtain ⟨u, g1, g2⟩ := h.ex
  refine ⟨_, pg_tup hc g1 hn hst, fun σ H Q g T Ex v o a w => ?_⟩
  unfold tupG at w
  split at w
  · rename_i ds
    obtain ⟨ad, vs, e1, e2, hl, r⟩ := a.top.isTup
    have hdn : ds.length = n := by
      by_cases z : ds.length = n
      · exact z
      · rw [hb ds g z] at w; exact w.elim
    exact ⟨ad, vs, e1, e2, hl.trans hdn, g2 σ H Q g T Ex vs ds _ hl ⟨a.fit, r.perm (List.perm_append_comm_assoc _ _ _)⟩ w⟩
  · exact w.elim
end
end Z
namespace Z
open PySem PySem.Spec L2
/-- a walk over data, ds, while Tk is held -/
structure Wk (K : PySem.W.Frag) (mg : Str → Option Value) (J : It) (Tk : Roots) (ds : List PyData) : Prop where
  go : ∀ (i : Nat) (H : Hp) (Ex : List (Addr × HO)) (rs : Roots), i < ds.length → Rel K mg H Ex (Tk ++ rs) [] → J.go i H
  stop : ∀ (i : Nat) (H : Hp) (Ex : List (Addr × HO)) (rs : Roots), ds.length ≤ i → Rel K mg H Ex (Tk ++ rs) [] → J.stop i H
  yld : ∀ (i : Nat) (H : Hp) (Ex : List (Addr × HO)) (rs : Roots) (x : V) (H' : Hp) (hi : i < ds.length), Rel K mg H Ex (Tk ++ rs) [] → J.yld i H x H' → Same H H' ∧ Rel K mg H' Ex ((x, .d ds[i]) :: (Tk ++ rs)) []
structure EvI (X : Cx) (W : WX) (pu : Bool) (tg iter : Expr) (m : M (List PyData)) : Prop where
  ex : ∃ wi, PI X tg iter wi ∧ ∀ (σ : L2.St) (H : Hp) (R : It → Hp → Prop) (g : Gs) (T : Roots) (Ex : List (Addr × HO)) (ws : Roots), At X H Ex σ g T ws →
    Wp (m g) (fun ds g' => ∀ J H' Tk, Wk X.K X.mg J Tk ds → (pu = true → g' = g ∧ Same H H') → At X H' Ex σ g' (Tk ++ T) (Vs pu ws) → R J H')
      (fun x g' => ∀ H' cls d, At X H' Ex σ g' T [] → ExAt X.mg Ex cls d H' x → W cls d σ H') → wi σ H R
section
variable {X : Cx} {W : WX} {pu pv pw : Bool} {H H' : Hp} {Ex : List (Addr × HO)} {σ σ' : L2.St} {g : Gs} {T T' ws ws' : Roots} {e a b o : Expr} {es : List Expr} {m : M O} {pos p apos : Pos} {k j np : Nat} {x : Str}
theorem At.relT {Tk : Roots} (a : At X H Ex σ g (Tk ++ T) ws) : Rel X.K X.mg H Ex (Tk ++ (roots σ g ++ T)) ws := a.tops
theorem At.dropTs {Tk : Roots} (a : At X H Ex σ g (Tk ++ T) ws) : At X H Ex σ g T ws := ⟨a.fit, (a.tops).dropL⟩
def forM (set : O → M Unit) (body : M Fl) : List PyData → M Fl
  | [] => M.ret .next
  | x :: r => M.bd (set (.d x)) fun _ => M.bd body fun fl => match fl with
    | .next => forM set body r
    | .cnt => forM set body r
    | .brk => M.ret .next
    | .ret o => M.ret (.ret o)
theorem es_for {tg iter : Expr} {body : List Stmt} {mi : M (List PyData)} {set : O → M Unit} {mb : M Fl} (c : Cc X W k) (hi : EvI X W pu tg iter mi) (hg : EvG X W np tg set) (hb : EvSs X W np body mb)
    (hs : ∀ x, foldedSetIterable iter X.env x = pure x := by intro _; rfl) : EvS X W np (.For tg iter body [] pos) (M.bd mi (forM set mb)) := by
  obtain ⟨wi, i1, i2⟩ := hi.ex
  obtain ⟨tg', t1, t2⟩ := hg.ex
  obtain ⟨tb, b1, b2⟩ := hb.ex
  refine ⟨_, ps_for c.own c.calm i1 t1 b1 hs, fun σ H D g T Ex a w => ?_⟩
  refine i2 σ H _ g T Ex [] a (w.bd.imp (fun ds g' kk J H' Tk wk s a' => ?_) fun x g' kk H' cls d a' e => kk σ H' cls d .refl a' e)
  refine ⟨fun i n σ1 H1 => n = ds.length - i ∧ i ≤ ds.length ∧ Pin np σ σ1 ∧ ∃ g1, At X H1 Ex σ1 g1 (Tk ++ T) [] ∧ Wp (forM set mb (ds.drop i) g1) (SPost X np σ T Ex D) (XPost X W np σ T Ex),
    ⟨ds.length, rfl, Nat.zero_le _, .refl, g', a'.noV, kk⟩, ?_⟩
  rintro i n σ1 H1 ⟨rfl, hle, pin, g1, a1, w1⟩
  by_cases hlt : i < ds.length
  · refine .inr ⟨wk.go i H1 Ex _ hlt a1.relT, fun σ2 H2 => ∃ m', m' < ds.length - i ∧ (m' = ds.length - (i + 1) ∧ i + 1 ≤ ds.length ∧ Pin np σ σ2 ∧ ∃ g2, At X H2 Ex σ2 g2 (Tk ++ T) [] ∧ Wp (forM set mb (ds.drop (i + 1)) g2) (SPost X np σ T Ex D) (XPost X W np σ T Ex)), fun _ _ h => h, fun x H2 y => ?_⟩
    obtain ⟨s2, r2⟩ := wk.yld i H1 Ex _ x H2 hlt a1.relT y
    rw [List.drop_eq_getElem_cons hlt] at w1
    refine t2 σ1 H2 _ g1 (Tk ++ T) Ex x _ (.ofTop a1.fit (r2.perm (.cons _ (List.perm_append_comm_assoc _ _ _)))) ((Wp.bd w1).imp (fun _ g2 kk σ2 H3 p2 a2 => ?_) fun x g2 kk σ' H' cls d q a2 e => kk σ' H' cls d (pin.trans q) a2.dropTs e)
    refine b2 σ2 H3 _ g2 (Tk ++ T) Ex a2 ((Wp.bd kk).imp (fun fl g3 kk => ?_) fun x g2 kk σ' H' cls d q a2 e => kk σ' H' cls d ((pin.trans p2).trans q) a2.dropTs e)
    cases fl with
    | next => exact fun σ3 H4 p3 a3 => ⟨_, by omega, rfl, hlt, (pin.trans p2).trans p3, g3, a3, kk⟩
    | cnt => exact fun σ3 H4 p3 a3 => ⟨_, by omega, rfl, hlt, (pin.trans p2).trans p3, g3, a3, kk⟩
    | brk => exact fun σ3 H4 p3 a3 => kk σ3 H4 ((pin.trans p2).trans p3) a3.dropTs
    | ret o => exact fun v σ3 H4 p3 a3 => kk v σ3 H4 ((pin.trans p2).trans p3) (At.ofTop a3.fit (a3.top.perm (.cons _ (List.perm_append_comm_assoc _ _ _)) |>.perm (List.perm_middle (l₁ := Tk)).symm |>.dropL))
  · have e : i = ds.length := by omega
    subst e
    rw [List.drop_length] at w1
    exact .inl ⟨wk.stop _ H1 Ex _ (Nat.le_refl _) a1.relT, w1 σ1 H1 pin a1.dropTs⟩
def whM (c : M Bool) (body : M Fl) : Nat → M Fl
  | 0 => M.no
  | n + 1 => M.bd c fun b => if b = true then M.bd body (fun fl => match fl with
    | .next => whM c body n
    | .cnt => whM c body n
    | .brk => M.ret .next
    | .ret o => M.ret (.ret o)) else M.ret .next
theorem es_while {t : Expr} {body : List Stmt} {mc : M Bool} {mb : M Fl} (n : Nat) (c : Cc X W k) (hc : EvT X W pu t mc) (hb : EvSs X W np body mb) : EvS X W np (.While t body [] pos) (whM mc mb n) := by
  obtain ⟨tc, c1, c2⟩ := hc.ex
  obtain ⟨tb, b1, b2⟩ := hb.ex
  refine ⟨_, ps_while c.own c1 b1, fun σ H D g T Ex a w => ?_⟩
  refine ⟨fun m σ1 H1 => Pin np σ σ1 ∧ ∃ g1, At X H1 Ex σ1 g1 T [] ∧ Wp (whM mc mb m g1) (SPost X np σ T Ex D) (XPost X W np σ T Ex), ⟨n, .refl, g, a, w⟩, ?_⟩
  rintro m σ1 H1 ⟨pin, g1, a1, w1⟩
  cases m with
  | zero => exact w1.elim
  | succ m =>
    refine c2 σ1 H1 _ g1 T Ex [] a1 ((Wp.bd w1).imp (fun b g2 kk H2 s2 a2 => ?_) fun x g2 kk H' cls d a2 e => kk σ1 H' cls d pin a2 e)
    cases b with
    | false => exact iteF (kk σ1 H2 pin a2.noV)
    | true =>
      refine iteT ⟨fun σ2 H3 => ∃ m', m' < m + 1 ∧ (Pin np σ σ2 ∧ ∃ g3, At X H3 Ex σ2 g3 T [] ∧ Wp (whM mc mb m' g3) (SPost X np σ T Ex D) (XPost X W np σ T Ex)), fun _ _ h => h, ?_⟩
      refine b2 σ1 H2 _ g2 T Ex a2.noV ((Wp.bd kk).imp (fun fl g3 kk => ?_) fun x g2 kk => kk.pin pin)
      cases fl with
      | next => exact fun σ3 H4 p3 a3 => ⟨m, Nat.lt_succ_self _, pin.trans p3, g3, a3, kk⟩
      | cnt => exact fun σ3 H4 p3 a3 => ⟨m, Nat.lt_succ_self _, pin.trans p3, g3, a3, kk⟩
      | brk => exact fun σ3 H4 p3 a3 => kk σ3 H4 (pin.trans p3) a3
      | ret o => exact fun v σ3 H4 p3 a3 => kk v σ3 H4 (pin.trans p3) a3
def iAny (K : PySem.W.Frag) (te : TE) : TI := fun σ H R => te σ H fun x H1 => (∃ a, x = .ref a ∧ (∃ xs, SqL K H1 a xs) ∧ R (Itl K a) H1) ∨ (∃ a, x = .ref a ∧ (∃ xs, SqT K H1 a xs) ∧ R (Itt K a) H1) ∨ ∃ z, x = .str z ∧ R (Its z) H1
theorem pi_any {tg : Expr} {te : TE} (he : PE X e te) : PI X tg e (iAny X.K te) := by
  refine ⟨fun pins s σ H R I h => ?_⟩
  refine thn (he.run pins s σ H _ I h) fun v s1 ⟨x, H1, I1, r1, q1⟩ => ?_
  rcases q1 with ⟨a, ex, ⟨xs, hq⟩, q⟩ | ⟨a, ex, ⟨xs, hq⟩, q⟩ | ⟨z, ex, q⟩
  · subst ex
    cases r1
    obtain ⟨its, rv, p, hz⟩ := I1.list hq
    refine wpAny_pyIter_list p.isList ?_
    refine ⟨s1.heap.objs.size, [s1.heap.objs.size], _, _, H1, rfl, I1.kept (t' := s1.toks) fun b o e => Heap.get?_push_of_some _ e, turn_list a _, ⟨_, Heap.get?_push_size _ rfl, rfl, rfl⟩, fun b hb => ?_, q⟩
    have e : b = s1.heap.objs.size := by simpa using hb
    subst e
    exact I1.fpOk (Nat.le_refl _) (I1.hok.fresh (Nat.le_refl _))
  · subst ex
    cases r1
    obtain ⟨its, rv, p, hz⟩ := I1.tuple hq
    refine wpAny_pyIter_tuple (show s1.heap.IsTuple a its.toArray from p) ?_
    refine ⟨s1.heap.objs.size, [s1.heap.objs.size], _, _, H1, rfl, I1.kept (t' := s1.toks) fun b o e => Heap.get?_push_of_some _ e, turn_tuple a _, ⟨_, Heap.get?_push_size _ rfl, rfl, rfl⟩, fun b hb => ?_, q⟩
    have e : b = s1.heap.objs.size := by simpa using hb
    subst e
    exact I1.fpOk (Nat.le_refl _) (I1.hok.fresh (Nat.le_refl _))
  · subst ex
    obtain ⟨t, rfl⟩ := r1
    cases ha : z.cps.all (· < 128)
    · exact wpAny_pyIter_wide ha (pi_one (tk := s1.toks) I1 _ (turn_str _ z t "str_iterator" (.inr rfl)) ⟨_, Heap.get?_push_size _ rfl, rfl, rfl⟩ q)
    · exact wpAny_pyIter_ascii ha (pi_one (tk := s1.toks) I1 _ (turn_str _ z t "str_ascii_iterator" (.inl rfl)) ⟨_, Heap.get?_push_size _ rfl, rfl, rfl⟩ q)
def signs (z : Str) : List PyData := z.cps.toList.map fun c => .str ⟨#[c]⟩
/-- the items of a value that is walked -/
def itemsM (o : O) : M (List PyData) := fun g => match o with
  | .d (.list ds) => .ok ds g
  | .d (.tuple ds) => .ok ds g
  | .d (.str z) => .ok (signs z) g
  | .gL ds => .ok ds g
  | .gT ds => .ok ds g
  | .lst os => match allD os with
    | some ds => .ok ds g
    | none => .bad
  | _ => .bad
theorem dpGet {K : PySem.W.Frag} {Hf : Hp} : ∀ {vs : List V} {ds : List PyData} {i : Nat} {v : V} (h : DpAll K Hf vs ds) (hv : vs[i]? = some v) (hi : i < ds.length), Dp K Hf v ds[i]
  | _, _, 0, _, .cons a t, hv, hi => by
    simp only [List.getElem?_cons_zero, Option.some.injEq] at hv
    subst hv
    exact a
  | _, _, i + 1, _, .cons a t, hv, hi => by
    simp only [List.getElem?_cons_succ] at hv
    exact dpGet (i := i) t hv (by simpa using hi)
/-- the seat of data that is held: one address, one look at any heap -/
theorem Rel.headDp {K : PySem.W.Frag} {mg : Str → Option Value} {rs : Roots} {v : V} {x : PyData} (r : Rel K mg H Ex ((v, .d x) :: rs) ws) : ∃ Hf, Same Hf H ∧ Dp K Hf v x ∧ ∀ (u : V) (y : PyData), Dp K Hf u y → Rel K mg H Ex ((u, .d y) :: (v, .d x) :: rs) ws := by
  obtain ⟨Hf, as, s, he, ho, nd, hn, hw⟩ := r.ex
  cases ho with
  | cons h t =>
    cases h with
    | d h => exact ⟨Hf.h, s.same, h, fun u y hu => ⟨Hf, _, s, he, .cons (as := []) (.d hu) (.cons (.d h) t), nd, hn, hw⟩⟩
theorem wkLst {K : PySem.W.Frag} {mg : Str → Option Value} {a : Addr} {ds : List PyData} : Wk K mg (Itl K a) [(.ref a, .d (.list ds))] ds where
  go := fun i H Ex rs hi r => by
    obtain ⟨Hf, s, h, _⟩ := r.headDp
    cases h with
    | lst h1 h2 =>
      rename_i vs
      have hv : i < vs.length := by rw [dpLen h2]; exact hi
      exact ⟨vs, vs[i], SqL.of (s _ _ h1), by simp [hv]⟩
  stop := fun i H Ex rs hi r => by
    obtain ⟨Hf, s, h, _⟩ := r.headDp
    cases h with
    | lst h1 h2 => exact ⟨_, SqL.of (s _ _ h1), by rw [dpLen h2]; exact hi⟩
  yld := fun i H Ex rs x H' hi r y => by
    obtain ⟨Hf, s, h, k⟩ := r.headDp
    obtain ⟨e, y⟩ := y
    subst e
    cases h with
    | lst h1 h2 => exact ⟨Same.refl _, k _ _ (dpGet h2 (y _ (SqL.of (s _ _ h1))) hi)⟩
theorem wkTup {K : PySem.W.Frag} {mg : Str → Option Value} {a : Addr} {ds : List PyData} : Wk K mg (Itt K a) [(.ref a, .d (.tuple ds))] ds where
  go := fun i H Ex rs hi r => by
    obtain ⟨Hf, s, h, _⟩ := r.headDp
    obtain ⟨a, vs, e, h1, h2⟩ := dpTup h
    cases e
    have hv : i < vs.length := by rw [dpLen h2]; exact hi
    exact ⟨vs, vs[i], sameT s h1, by simp [hv]⟩
  stop := fun i H Ex rs hi r => by
    obtain ⟨Hf, s, h, _⟩ := r.headDp
    obtain ⟨a, vs, e, h1, h2⟩ := dpTup h
    cases e
    exact ⟨_, sameT s h1, by rw [dpLen h2]; exact hi⟩
  yld := fun i H Ex rs x H' hi r y => by
    obtain ⟨Hf, s, h, k⟩ := r.headDp
    obtain ⟨e, y⟩ := y
    subst e
    obtain ⟨a, vs, e, h1, h2⟩ := dpTup h
    cases e
    exact ⟨Same.refl _, k _ _ (dpGet h2 (y _ (sameT s h1)) hi)⟩
theorem Rel.headG {K : PySem.W.Frag} {mg : Str → Option Value} {rs : Roots} {v : V} {o : O} (r : Rel K mg H Ex ((v, o) :: rs) ws) : ∃ (Hf : Fz) (as : List Addr), Hf.on K H ∧ Ow K mg Hf H v o as ∧ ∀ (u : V) (y : PyData), Dp K Hf.h u y → Rel K mg H Ex ((u, .d y) :: (v, o) :: rs) ws := by
  obtain ⟨Hf, as, s, he, ho, nd, hn, hw⟩ := r.ex
  cases ho with
  | cons h t => exact ⟨Hf, _, s, h, fun u y hu => ⟨Hf, _, s, he, .cons (as := []) (.d hu) (.cons h t), nd, hn, hw⟩⟩
theorem wkGL {K : PySem.W.Frag} {mg : Str → Option Value} {a : Addr} {ds : List PyData} : Wk K mg (Itl K a) [(.ref a, .gL ds)] ds where
  go := fun i H Ex rs hi r => by
    obtain ⟨Hf, as, s, h, _⟩ := r.headG
    cases h with
    | gL h1 h2 =>
      rename_i vs
      have hv : i < vs.length := by rw [dpLen h2]; exact hi
      exact ⟨vs, vs[i], s.same.seq h1, by simp [hv]⟩
  stop := fun i H Ex rs hi r => by
    obtain ⟨Hf, as, s, h, _⟩ := r.headG
    cases h with
    | gL h1 h2 => exact ⟨_, s.same.seq h1, by rw [dpLen h2]; exact hi⟩
  yld := fun i H Ex rs x H' hi r y => by
    obtain ⟨Hf, as, s, h, k⟩ := r.headG
    obtain ⟨e, y⟩ := y
    subst e
    cases h with
    | gL h1 h2 => exact ⟨Same.refl _, k _ _ (dpGet h2 (y _ (s.same.seq h1)) hi)⟩
theorem wkGT {K : PySem.W.Frag} {mg : Str → Option Value} {a : Addr} {ds : List PyData} : Wk K mg (Itt K a) [(.ref a, .gT ds)] ds where
  go := fun i H Ex rs hi r => by
    obtain ⟨Hf, as, s, h, _⟩ := r.headG
    cases h with
    | gT h1 h2 =>
      rename_i vs
      have hv : i < vs.length := by rw [dpLen h2]; exact hi
      exact ⟨vs, vs[i], sameT s.same h1, by simp [hv]⟩
  stop := fun i H Ex rs hi r => by
    obtain ⟨Hf, as, s, h, _⟩ := r.headG
    cases h with
    | gT h1 h2 => exact ⟨_, sameT s.same h1, by rw [dpLen h2]; exact hi⟩
  yld := fun i H Ex rs x H' hi r y => by
    obtain ⟨Hf, as, s, h, k⟩ := r.headG
    obtain ⟨e, y⟩ := y
    subst e
    cases h with
    | gT h1 h2 => exact ⟨Same.refl _, k _ _ (dpGet h2 (y _ (sameT s.same h1)) hi)⟩
theorem wkStr {K : PySem.W.Frag} {mg : Str → Option Value} {z : Str} {Tk : Roots} : Wk K mg (Its z) Tk (signs z) where
  go := fun i H Ex rs hi r => by simpa [signs, Its] using hi
  stop := fun i H Ex rs hi r => by simpa [signs, Its] using hi
  yld := fun i H Ex rs x H' hi r y => by
    obtain ⟨e, c, hc, ex⟩ := y
    subst e; subst ex
    refine ⟨Same.refl _, r.data fun Hf => ?_⟩
    have h1 : (signs z)[i]? = some (.str ⟨#[c]⟩) := by
      unfold signs
      rw [List.getElem?_map, Array.getElem?_toList, hc]
      rfl
    have e : (signs z)[i] = .str ⟨#[c]⟩ := Option.some.inj ((List.getElem?_eq_getElem hi).symm.trans h1)
    rw [e]
    exact .str _
theorem ei_seq {tg : Expr} (h : Ev X W pu e m) : EvI X W pu tg e (M.bd m itemsM) := by
  obtain ⟨t, h1, h2⟩ := h.ex
  refine ⟨_, pi_any h1, fun σ H R g T Ex ws a w => h2 σ H _ g T Ex ws a (w.bd.imp (fun o g' kk v H' s a' => ?_) fun _ _ kk => kk)⟩
  unfold itemsM at kk
  split at kk
  · rename_i ds
    obtain ⟨Hf, sm, h, _⟩ := a'.top.headDp
    cases h with
    | lst q1 q2 => exact .inl ⟨_, rfl, ⟨_, SqL.of (sm _ _ q1)⟩, kk _ H' [(_, .d (.list ds))] wkLst s a'⟩
  · rename_i ds
    obtain ⟨Hf, sm, h, _⟩ := a'.top.headDp
    obtain ⟨a, vs, e, q1, q2⟩ := dpTup h
    cases e
    exact .inr (.inl ⟨_, rfl, ⟨_, sameT sm q1⟩, kk _ H' [(_, .d (.tuple ds))] wkTup s a'⟩)
  · rename_i z
    obtain ⟨Hf, sm, h, _⟩ := a'.top.headDp
    cases h with
    | str => exact .inr (.inr ⟨z, rfl, kk _ H' [] wkStr s a'.drop⟩)
  · rename_i ds
    obtain ⟨Hf, as, sm, h, _⟩ := a'.top.headG
    cases h with
    | gL q1 q2 => exact .inl ⟨_, rfl, ⟨_, sm.same.seq q1⟩, kk _ H' [(_, .gL ds)] wkGL s a'⟩
  · rename_i ds
    obtain ⟨Hf, as, sm, h, _⟩ := a'.top.headG
    cases h with
    | gT q1 q2 => exact .inr (.inl ⟨_, rfl, ⟨_, sameT sm.same q1⟩, kk _ H' [(_, .gT ds)] wkGT s a'⟩)
  · rename_i os
    cases q : allD os with
    | none => rw [q] at kk; exact kk.elim
    | some ds =>
      rw [q] at kk
      have hz : (O.lst os).fz = some (.list ds) := by simp only [O.fz, allDFz q]
      have r := a'.top.fz hz
      obtain ⟨Hf, sm, h, _⟩ := r.headDp
      cases h with
      | lst q1 q2 => exact .inl ⟨_, rfl, ⟨_, SqL.of (sm _ _ q1)⟩, kk _ H' [(_, .d (.list ds))] wkLst s (.ofTop a'.fit r)⟩
  · exact kk.elim
def intsF (lo : Int) (n : Nat) : List PyData := (List.range n).map fun i => .int (lo + (i : Nat))
theorem wkRng {K : PySem.W.Frag} {mg : Str → Option Value} {lo : Int} {n : Nat} {Tk : Roots} : Wk K mg (Itr lo n) Tk (intsF lo n) where
  go := fun i H Ex rs hi r => by simpa [intsF, Itr] using hi
  stop := fun i H Ex rs hi r => by simpa [intsF, Itr] using hi
  yld := fun i H Ex rs x H' hi r y => by
    obtain ⟨e, ex⟩ := y
    subst e; subst ex
    refine ⟨Same.refl _, r.data fun Hf => ?_⟩
    have e : (intsF lo n)[i] = .int (lo + (i : Nat)) := by simp [intsF]
    rw [e]
    exact .int _
def inRng (i : Int) : Bool := decide (-(4611686018427387904) ≤ i) && decide (i < 4611686018427387904)
def rng1M (os : List O) : M (List PyData) := fun g => match os with
  | [.d (.int i)] => if inRng i = true then .ok (intsF 0 i.toNat) g else .bad
  | _ => .bad
def rng2M (os : List O) : M (List PyData) := fun g => match os with
  | [.d (.int i), .d (.int j)] => if inRng i = true ∧ inRng j = true then .ok (intsF i (j - i).toNat) g else .bad
  | _ => .bad
theorem inRng_ok {i : Int} (h : inRng i = true) : -(2 ^ 62) ≤ i ∧ i < 2 ^ 62 := by
  unfold inRng at h
  have := Bool.and_eq_true_iff.mp h
  exact ⟨by have := of_decide_eq_true this.1; omega, by have := of_decide_eq_true this.2; omega⟩
theorem Rel.isI {K : PySem.W.Frag} {mg : Str → Option Value} {rs : Roots} {v : V} {i : Int} (r : Rel K mg H Ex ((v, .d (.int i)) :: rs) ws) : v = .int i := by
  obtain ⟨Hf, s, h, _⟩ := r.headDp
  cases h; rfl
theorem ei_range1 {tg : Expr} {ms : M (List O)} (h : EvEs X W pu [a] ms) (hg : Gl X "range") (hm : X.mg "range" = none) (hs : starEach [a] X.env = [(false, eval a X.env)] := by rfl) : EvI X W pu tg (.Call (.Name "range" p) [a] [] pos) (M.bd ms rng1M) := by
  obtain ⟨ts, g1, g2⟩ := h.ex
  refine ⟨_, pi_range1 hg hm g1.pa hs, fun σ H R g T Ex ws a w => g2 σ H _ g T Ex ws a (w.bd.imp (fun os g' kk vs H' hl s a' => ?_) fun _ _ kk => kk)⟩
  unfold rng1M at kk
  split at kk
  · rename_i i
    split at kk
    · rename_i hi
      match vs, hl with
      | [v], _ =>
        have r : Rel X.K X.mg H' Ex ((v, .d (.int i)) :: (roots σ g' ++ T)) (Vs pu ws) := a'.top
        obtain rfl := r.isI
        obtain ⟨h1, h2⟩ := inRng_ok hi
        exact ⟨i, rfl, h1, h2, kk _ H' [] wkRng s (At.drop (p := (.int i, .d (.int i))) a')⟩
    · exact kk.elim
  · exact kk.elim
theorem ei_range2 {tg : Expr} {ms : M (List O)} (h : EvEs X W pu [a, b] ms) (hg : Gl X "range") (hm : X.mg "range" = none) (hs : starEach [a, b] X.env = [(false, eval a X.env), (false, eval b X.env)] := by rfl) (hs2 : starEach [b] X.env = [(false, eval b X.env)] := by rfl) : EvI X W pu tg (.Call (.Name "range" p) [a, b] [] pos) (M.bd ms rng2M) := by
  obtain ⟨ts, g1, g2⟩ := h.ex
  refine ⟨_, pi_range2 hg hm g1.pa hs hs2, fun σ H R g T Ex ws a w => g2 σ H _ g T Ex ws a (w.bd.imp (fun os g' kk vs H' hl s a' => ?_) fun _ _ kk => kk)⟩
  unfold rng2M at kk
  split at kk
  · rename_i i j
    split at kk
    · rename_i hi
      match vs, hl with
      | [v, u], _ =>
        have a1 : At X H' Ex σ g' ((v, .d (.int i)) :: (u, .d (.int j)) :: T) (Vs pu ws) := a'
        obtain rfl := a1.top.isI
        obtain rfl := a1.drop.top.isI
        obtain ⟨h1, h2⟩ := inRng_ok hi.1
        obtain ⟨h3, h4⟩ := inRng_ok hi.2
        exact ⟨i, j, rfl, ⟨h1, h2, h3, h4⟩, kk _ H' [] wkRng s a1.drop.drop⟩
    · exact kk.elim
  · exact kk.elim
end
end Z
namespace Z
open PySem PySem.Spec L2
def wipeG (g : Gs) : List Nat → Gs
  | [] => g
  | v :: vs => (wipeG g vs).set v none
def restG (g1 : Gs) : List Nat → Gs → Gs
  | [], g3 => g3
  | v :: vs, g3 => restG g1 vs (g3.set v (((wipeG g1 vs)[v]?).getD none))
def hidR (σ : L2.St) (g : Gs) : List Nat → Roots
  | [] => []
  | v :: vs => (match (wipe σ vs)[v]?, (wipeG g vs)[v]? with
    | some (some x), some (some o) => [(x, o)]
    | _, _ => []) ++ hidR σ g vs
section
variable {K : PySem.W.Frag} {mg : Str → Option Value} {H : Hp} {Ex : List (Addr × HO)} {T ws : Roots} {σ : L2.St} {g g1 : Gs}
theorem wipeFit (f : Fit σ g) : ∀ vs, Fit (wipe σ vs) (wipeG g vs)
  | [] => f
  | v :: vs => by
    have ih := wipeFit f vs
    refine ⟨by unfold wipe wipeG; rw [List.length_set, List.length_set]; exact ih.len, fun i o h => ?_⟩
    unfold wipe
    unfold wipeG at h
    by_cases e : v = i
    · subst e
      rw [List.getElem?_set] at h
      simp at h
    · rw [List.getElem?_set_ne e] at h
      rw [List.getElem?_set_ne e]
      exact ih.at_ i o h
theorem wipeRoots (f : Fit σ g) : ∀ vs, (roots σ g).Perm (roots (wipe σ vs) (wipeG g vs) ++ hidR σ g vs)
  | [] => by simp [wipe, wipeG, hidR]
  | v :: vs => by
    have ih := wipeRoots f vs
    have fv := wipeFit f vs
    show (roots σ g).Perm (roots ((wipe σ vs).set v none) ((wipeG g vs).set v none) ++ _)
    rw [rootsNone]
    unfold hidR
    cases q : (wipeG g vs)[v]? with
    | none =>
      rw [setNone (by intro o; rw [q]; simp)]
      cases (wipe σ vs)[v]? with
      | none => exact ih
      | some y => cases y <;> exact ih
    | some y =>
      cases y with
      | none =>
        rw [setNone (by intro o; rw [q]; simp)]
        cases (wipe σ vs)[v]? with
        | none => exact ih
        | some y => cases y <;> exact ih
      | some o =>
        obtain ⟨x, hx⟩ := fv.at_ v o q
        rw [hx]
        exact ih.trans (((rootsGet hx q).append_right _).trans List.perm_middle.symm)
/-- back from a block: the hidden slots stand again -/
theorem restRel (f : Fit σ g1) : ∀ (vs : List Nat) {g3 : Gs}, Fit (wipe σ vs) g3 → Rel K mg H Ex (roots (wipe σ vs) g3 ++ (hidR σ g1 vs ++ T)) ws → Fit σ (restG g1 vs g3) ∧ Rel K mg H Ex (roots σ (restG g1 vs g3) ++ T) ws
  | [], g3, f3, r => ⟨f3, r⟩
  | v :: vs, g3, f3, r => by
    unfold restG
    have f3' : Fit ((wipe σ vs).set v none) g3 := f3
    have hlen : (wipe σ vs).length = g3.length := by have := f3'.len; rwa [List.length_set] at this
    have fv := wipeFit f vs
    have e3 : g3.set v none = g3 := setNone (by
      intro o q
      obtain ⟨x, hx⟩ := f3'.at_ v o q
      rw [List.getElem?_set] at hx
      simp at hx)
    have r0 : Rel K mg H Ex (roots (wipe σ vs) (g3.set v none) ++ (hidR σ g1 (v :: vs) ++ T)) ws := by
      have : roots ((wipe σ vs).set v none) (g3.set v none) = roots (wipe σ vs) (g3.set v none) := rootsNone
      rw [← this, e3]
      exact r
    unfold hidR at r0
    cases q : (wipeG g1 vs)[v]? with
    | none =>
      refine restRel f vs ⟨?_, ?_⟩ ?_
      · simpa using hlen
      · intro i o h
        simp only [Option.getD_none] at h
        rw [e3] at h
        obtain ⟨x, hx⟩ := f3'.at_ i o h
        by_cases e : v = i
        · subst e; rw [List.getElem?_set] at hx; simp at hx
        · rw [List.getElem?_set_ne e] at hx; exact ⟨x, hx⟩
      · rw [q] at r0
        simp only [Option.getD_none]
        cases z : (wipe σ vs)[v]? with
        | none => rw [z] at r0; exact r0
        | some y => rw [z] at r0; cases y <;> exact r0
    | some y =>
      cases y with
      | none =>
        refine restRel f vs ⟨?_, ?_⟩ ?_
        · simpa using hlen
        · intro i o h
          simp only [Option.getD_some] at h
          rw [e3] at h
          obtain ⟨x, hx⟩ := f3'.at_ i o h
          by_cases e : v = i
          · subst e; rw [List.getElem?_set] at hx; simp at hx
          · rw [List.getElem?_set_ne e] at hx; exact ⟨x, hx⟩
        · rw [q] at r0
          simp only [Option.getD_some]
          cases z : (wipe σ vs)[v]? with
          | none => rw [z] at r0; exact r0
          | some y => rw [z] at r0; cases y <;> exact r0
      | some o =>
        obtain ⟨x, hx⟩ := fv.at_ v o q
        rw [q, hx] at r0
        simp only [Option.getD_some]
        have fw : Fit (wipe σ vs) (g3.set v none) := ⟨by simpa using hlen, fun i o h => by
          rw [e3] at h
          obtain ⟨x, hx⟩ := f3'.at_ i o h
          by_cases e : v = i
          · subst e; rw [List.getElem?_set] at hx; simp at hx
          · rw [List.getElem?_set_ne e] at hx; exact ⟨x, hx⟩⟩
        have r1 : Rel K mg H Ex ((x, o) :: (roots (wipe σ vs) (g3.set v none) ++ (hidR σ g1 vs ++ T))) ws := r0.perm List.perm_middle
        have hv := (List.getElem?_eq_some_iff.mp hx).1
        refine restRel f vs ⟨by rw [List.length_set]; exact hlen, fun i o' h => ?_⟩ (r1.perm ?_)
        · by_cases e : v = i
          · subst e; exact ⟨x, hx⟩
          · rw [List.getElem?_set_ne e] at h
            have h2 : (g3.set v none)[i]? = some (some o') := by rw [List.getElem?_set_ne e]; exact h
            exact fw.at_ i o' h2
        · have f0 : Fit (wipe σ vs) g3 := by rw [← e3]; exact fw
          exact (rootsPut f0 hx).symm.append_right _
end
/-- the turns: data in, what is made so far -/
def lcM (vs : List Nat) (set : O → M Unit) (tst : M Bool) (elt : M O) : List PyData → List O → M (List O)
  | [], acc => M.ret acc
  | x :: r, acc => M.bd (set (.d x)) fun _ => M.bd tst fun b => if b = true then M.bd elt (fun o g => lcM vs set tst elt r (acc ++ [o]) (wipeG g vs)) else fun g => lcM vs set tst elt r acc (wipeG g vs)
def Res.noXR {α : Type} : Res α → Res α
  | .ok a e => .ok a e
  | .all f => .all fun v => (f v).noXR
  | _ => .bad
def Res.noX {α : Type} (r : Res α) : Res α := match r with
  | .ok a e => .ok a e
  | .all f => .all fun v => (f v).noXR
  | _ => .bad
theorem Res.noXR_eq {α : Type} : ∀ {r : Res α}, r.noXR = r.noX
  | .ok _ _ => rfl
  | .ex _ _ => rfl
  | .bad => rfl
  | .all _ => rfl
theorem Res.wp_noX {α : Type} {A : α → Gs → Prop} {B : Exn → Gs → Prop} : ∀ {r : Res α}, Wp r.noX A B ↔ Wp r A (fun _ _ => False)
  | .ok a e => Iff.rfl
  | .ex x e => Iff.rfl
  | .bad => Iff.rfl
  | .all f => wp_all.trans ((forall_congr' fun v => by rw [Res.noXR_eq]; exact Res.wp_noX (r := f v)).trans wp_all.symm)
def compM (vs : List Nat) (mi : M (List PyData)) (set : O → M Unit) (tst : M Bool) (elt : M O) : M O := M.bd mi fun ds g1 =>
  if lenOk ds.length = true then (lcM vs set tst elt ds [] (wipeG g1 vs)).noX.bd fun os g3 => .ok (.lst os) (restG g1 vs g3)
  else .bad
def yesM : M Bool := M.ret true
abbrev WX0 : WX := fun _ _ _ _ => False
structure EvC (X : Cx) (W : WX) (pu : Bool) (cs : List Expr) (m : M Bool) : Prop where
  ex : ∃ t, PTs X cs t ∧ ∀ (σ : L2.St) (H : Hp) (Q : Bool → Hp → Prop) (g : Gs) (T : Roots) (Ex : List (Addr × HO)) (ws : Roots), At X H Ex σ g T ws →
    Wp (m g) (fun b g' => ∀ H', (pu = true → g' = g ∧ Same H H') → At X H' Ex σ g' T (Vs pu ws) → Q b H')
      (fun x g' => ∀ H' cls d, At X H' Ex σ g' T [] → ExAt X.mg Ex cls d H' x → W cls d σ H') → t σ H Q
/-- a target of a comprehension: it leaves the heap, and slots but its own -/
structure EvB (X : Cx) (vs : List Nat) (tg : Expr) (f : O → M Unit) : Prop where
  ex : ∃ t, PG X tg t ∧ ∀ (σ : L2.St) (H : Hp) (Q : L2.St → Hp → Prop) (g : Gs) (T : Roots) (Ex : List (Addr × HO)) (ws : Roots) (v : V) (o : O) (B : Exn → Gs → Prop), At X H Ex σ g ((v, o) :: T) ws →
    Wp (f o g) (fun _ g' => ∀ σ', wipe σ' vs = wipe σ vs → wipeG g' vs = wipeG g vs → At X H Ex σ' g' T ws → Q σ' H) B → t v σ H Q
section
variable {X : Cx} {W : WX} {pu pv pw : Bool} {H H' : Hp} {Ex : List (Addr × HO)} {σ σ' : L2.St} {g : Gs} {T T' ws ws' : Roots} {e a b o : Expr} {es : List Expr} {m : M O} {pos p apos : Pos} {k j np : Nat} {x : Str}
theorem ec_yes : EvC X W true [] yesM := ⟨_, pts_nil, fun σ H Q g T Ex ws a w => w H (fun _ => ⟨rfl, Same.refl _⟩) a⟩
theorem ec_one {mb : M Bool} (h : EvT X W pu e mb) : EvC X W pu [e] mb := by
  obtain ⟨t, h1, h2⟩ := h.ex
  exact ⟨t, pts_one h1, h2⟩
theorem wipeSetSt {σ : L2.St} {i : Nat} {x : Option V} : ∀ {vs : List Nat}, i ∈ vs → wipe (σ.set i x) vs = wipe σ vs
  | v :: vs, h => by
    unfold wipe
    by_cases hm : i ∈ vs
    · rw [wipeSetSt hm]
    · rcases List.mem_cons.mp h with e | e
      · subst e
        have : ∀ vs : List Nat, i ∉ vs → wipe (σ.set i x) vs = (wipe σ vs).set i x := by
          intro vs
          induction vs with
          | nil => intro _; rfl
          | cons v vs ih =>
            intro hv
            unfold wipe
            rw [ih (fun z => hv (List.mem_cons_of_mem _ z)), List.set_comm _ _ (fun z => hv (by rw [z]; exact List.mem_cons_self))]
        rw [this vs hm, List.set_set]
      · exact absurd e hm
theorem wipeSetG {g : Gs} {i : Nat} {x : Option O} : ∀ {vs : List Nat}, i ∈ vs → wipeG (g.set i x) vs = wipeG g vs
  | v :: vs, h => by
    unfold wipeG
    by_cases hm : i ∈ vs
    · rw [wipeSetG hm]
    · rcases List.mem_cons.mp h with e | e
      · subst e
        have : ∀ vs : List Nat, i ∉ vs → wipeG (g.set i x) vs = (wipeG g vs).set i x := by
          intro vs
          induction vs with
          | nil => intro _; rfl
          | cons v vs ih =>
            intro hv
            unfold wipeG
            rw [ih (fun z => hv (List.mem_cons_of_mem _ z)), List.set_comm _ _ (fun z => hv (by rw [z]; exact List.mem_cons_self))]
        rw [this vs hm, List.set_set]
      · exact absurd e hm
theorem eb_name (i : Nat) {vs : List Nat} {x : Str} (hm : i ∈ vs) (hN : X.N.Nodup) (hi : X.N[i]? = some x) (hx : Loc X.env.scope x) (hf : X.fn x = true ∨ X.env.scope.names.lookup x = some .local := by first | exact .inl rfl | exact .inr rfl | assumption) : EvB X vs (.Name x pos) (setM i) :=
  ⟨_, pg_name hN hi hx hf, fun σ H Q g T Ex ws v o B a w => w _ (wipeSetSt hm) (wipeSetG hm) a.storeAny⟩
theorem At.cx {Y Y2 : Cx} (a : At Y H Ex σ g T ws) (h1 : Y.K = Y2.K := by rfl) (h2 : Y.mg = Y2.mg := by rfl) : At Y2 H Ex σ g T ws := ⟨a.fit, by rw [← h1, ← h2]; exact a.rel⟩
abbrev BI := Shared × Hp × Addr × List (Str × Addr) × List Addr
abbrev blkAt (X : Cx) (scope : Scope) (i : BI) : Cx := X.blk i.1 i.2.1 scope (compEnvC scope i.2.2.2.1 i.2.2.1 X.env) i.2.2.2.2
theorem Cc.blk (c : Cc X W k) (scope : Scope) (i : BI) : Cc (blkAt X scope i) WX0 k := ⟨takes0, c.hr, c.calm, c.nd, PySem.PassesOwn.never⟩
theorem wipe2 {σ : L2.St} {vs' : List Nat} : ∀ {vs : List Nat}, (∀ v ∈ vs, v ∈ vs') → wipe (wipe σ vs) vs' = wipe σ vs'
  | [], _ => rfl
  | v :: vs, h => by
    show wipe ((wipe σ vs).set v none) vs' = _
    rw [wipeSetSt (h v List.mem_cons_self), wipe2 fun u m => h u (List.mem_cons_of_mem _ m)]
theorem wipeRel {K : PySem.W.Frag} {mg : Str → Option Value} {R : Roots} {vs : List Nat} (f : Fit σ g) (r : Rel K mg H Ex (roots σ g ++ R) ws) : Rel K mg H Ex (roots (wipe σ vs) (wipeG g vs) ++ R) ws := by
  have r1 := r.perm ((wipeRoots f vs).append_right R)
  rw [List.append_assoc] at r1
  have r2 := r1.perm (List.perm_append_comm_assoc (roots (wipe σ vs) (wipeG g vs)) (hidR σ g vs) R)
  exact r2.dropL
theorem ev_comp {tg iter elt : Expr} {ifs : List Expr} {scope : Scope} {own : List (Str × Nat)} {mi : M (List PyData)} {set : O → M Unit} {tst : M Bool} {me : M O} (c : Cc X W k) (hi : EvI X W pu tg iter mi) (ok : BlkOk X.N X.env.scope scope own)
    (hg : ∀ i : BI, EvB (blkAt X scope i) (own.map (·.2)) tg set) (ht : ∀ i : BI, EvC (blkAt X scope i) WX0 pv ifs tst) (he : ∀ i : BI, Ev (blkAt X scope i) WX0 pw elt me) (hs : ∀ x, foldedSetIterable iter X.env x = pure x := by intro _; rfl) :
    Ev X W false (.ListComp elt [⟨tg, iter, ifs, 0⟩] scope pos) (compM (own.map (·.2)) mi set tst me) ∧ ∃ wi g tt te, PI X tg iter wi ∧ (∀ (s : Shared) (H : Hp) (C : Addr) (cl : List (Str × Addr)) (fp : List Addr), PG (X.blk s H scope (compEnvC scope cl C X.env) fp) tg g) ∧
      (∀ (s : Shared) (H : Hp) (C : Addr) (cl : List (Str × Addr)) (fp : List Addr), PTs (X.blk s H scope (compEnvC scope cl C X.env) fp) ifs tt) ∧ (∀ (s : Shared) (H : Hp) (C : Addr) (cl : List (Str × Addr)) (fp : List Addr), PE (X.blk s H scope (compEnvC scope cl C X.env) fp) elt te) ∧
      ∀ (σ : L2.St) (H : Hp) (Q : VK) (g0 : Gs) (T : Roots) (Ex : List (Addr × HO)) (ws : Roots), At X H Ex σ g0 T ws →
    Wp (compM (own.map (·.2)) mi set tst me g0) (fun o g' => ∀ v H', (false = true → g' = g0 ∧ Same H H') → At X H' Ex σ g' ((v, o) :: T) (Vs false ws) → Q v H')
      (fun x g' => ∀ H' cls d, At X H' Ex σ g' T [] → ExAt X.mg Ex cls d H' x → W cls d σ H') → tLc wi g tt te (own.map (·.2)) σ H Q := by
  obtain ⟨wi, i1, i2⟩ := hi.ex
  let tgU : TG := fun v σ H Q => ∀ i, (hg i).ex.choose v σ H Q
  let ttU : TT := fun σ H Q => ∀ i, (ht i).ex.choose σ H Q
  let teU : TE := fun σ H Q => ∀ i, (he i).ex.choose σ H Q
  have p1 : ∀ (s : Shared) (H : Hp) (C : Addr) (cl : List (Str × Addr)) (fp : List Addr), PG (X.blk s H scope (compEnvC scope cl C X.env) fp) tg tgU := fun s H C cl fp =>
    ⟨fun pins s' σ H' v u Q I r q => (hg (s, H, C, cl, fp)).ex.choose_spec.1.run pins s' σ H' v u Q I r (q _)⟩
  have p2 : ∀ (s : Shared) (H : Hp) (C : Addr) (cl : List (Str × Addr)) (fp : List Addr), PTs (X.blk s H scope (compEnvC scope cl C X.env) fp) ifs ttU := fun s H C cl fp =>
    ⟨fun pins s' σ H' Q I q => (ht (s, H, C, cl, fp)).ex.choose_spec.1.run pins s' σ H' Q I (q _)⟩
  have p3 : ∀ (s : Shared) (H : Hp) (C : Addr) (cl : List (Str × Addr)) (fp : List Addr), PE (X.blk s H scope (compEnvC scope cl C X.env) fp) elt teU := fun s H C cl fp =>
    ⟨fun pins s' σ H' Q I q => (he (s, H, C, cl, fp)).ex.choose_spec.1.run pins s' σ H' Q I (q _)⟩
  have core : ∀ (σ : L2.St) (H : Hp) (Q : VK) (g0 : Gs) (T : Roots) (Ex : List (Addr × HO)) (ws : Roots), At X H Ex σ g0 T ws →
    Wp (compM (own.map (·.2)) mi set tst me g0) (fun o g' => ∀ v H', (false = true → g' = g0 ∧ Same H H') → At X H' Ex σ g' ((v, o) :: T) (Vs false ws) → Q v H')
      (fun x g' => ∀ H' cls d, At X H' Ex σ g' T [] → ExAt X.mg Ex cls d H' x → W cls d σ H') → tLc wi tgU ttU teU (own.map (·.2)) σ H Q := by
    intro σ H Q g T Ex ws a w
    generalize hvs : own.map (·.2) = vs at w ⊢
    refine i2 σ H _ g T Ex ws a (w.bd.imp (fun ds g1 kk J H1 Tk wk s a1 => ?_) fun _ _ kk => kk)
    intro D hD
    split at kk
    · rename_i hlen
      have hsz := lenOk_le hlen
      · have kk2 := Res.wp_noX.mp (Res.wp_bd.mp kk)
        have w0 : Wp (lcM vs set tst me (ds.drop 0) [] (wipeG g1 vs)) (fun os' g' => Wp (.ok (.lst os') (restG g1 vs g')) (fun o g' => ∀ v H', (false = true → g' = g ∧ Same H H') → At X H' Ex σ g' ((v, o) :: T) (Vs false ws) → Q v H') (fun x g' => ∀ H' cls d, At X H' Ex σ g' T [] → ExAt X.mg Ex cls d H' x → W cls d σ H')) (fun _ _ => False) := by
          rw [List.drop_zero]
          exact kk2
        refine ⟨fun i n H2 => n = ds.length - i ∧ i ≤ ds.length ∧ ∃ (acc : List O) (va : List V) (g2 : Gs), va.length = acc.length ∧ acc.length ≤ i ∧ Fit (wipe σ vs) g2 ∧ Rel X.K X.mg H2 ((D, .lst va) :: Ex) (roots (wipe σ vs) g2 ++ (va.zip acc ++ (Tk ++ (hidR σ g1 vs ++ T)))) [] ∧
          Wp (lcM vs set tst me (ds.drop i) acc g2) (fun os' g' => Wp (.ok (.lst os') (restG g1 vs g')) (fun o g' => ∀ v H', (false = true → g' = g ∧ Same H H') → At X H' Ex σ g' ((v, o) :: T) (Vs false ws) → Q v H') (fun x g' => ∀ H' cls d, At X H' Ex σ g' T [] → ExAt X.mg Ex cls d H' x → W cls d σ H')) (fun _ _ => False), ⟨ds.length, rfl, Nat.zero_le _, [], [], _, rfl, Nat.le_refl _, wipeFit a1.fit vs, ?_, w0⟩, ?_⟩
        · refine (Rel.new (ws := Vs pu ws) (.lst []) ?_ hD).noviews
          have r1 := a1.rel.perm ((wipeRoots a1.fit vs).append_right (Tk ++ T))
          rw [List.append_assoc] at r1
          exact r1.perm ((List.perm_append_comm_assoc _ _ _).append_left _)
        · rintro i n H2 ⟨rfl, hle, acc, va, g2, hva, hacc, f2, r2, w2⟩
          have rTk : Rel X.K X.mg H2 ((D, .lst va) :: Ex) (Tk ++ (roots (wipe σ vs) g2 ++ (va.zip acc ++ (hidR σ g1 vs ++ T)))) [] := by
            refine r2.perm ?_
            refine ((List.perm_append_comm_assoc _ _ _).append_left _).trans ?_
            exact List.perm_append_comm_assoc _ _ _
          by_cases hlt : i < ds.length
          · refine .inr ⟨wk.go i H2 _ _ hlt rTk, fun H' => ∃ m', m' < ds.length - i ∧ (m' = ds.length - (i + 1) ∧ i + 1 ≤ ds.length ∧ ∃ (acc : List O) (va : List V) (g2 : Gs), va.length = acc.length ∧ acc.length ≤ i + 1 ∧ Fit (wipe σ vs) g2 ∧ Rel X.K X.mg H' ((D, .lst va) :: Ex) (roots (wipe σ vs) g2 ++ (va.zip acc ++ (Tk ++ (hidR σ g1 vs ++ T)))) [] ∧
              Wp (lcM vs set tst me (ds.drop (i + 1)) acc g2) (fun os' g' => Wp (.ok (.lst os') (restG g1 vs g')) (fun o g' => ∀ v H', (false = true → g' = g ∧ Same H H') → At X H' Ex σ g' ((v, o) :: T) (Vs false ws) → Q v H') (fun x g' => ∀ H' cls d, At X H' Ex σ g' T [] → ExAt X.mg Ex cls d H' x → W cls d σ H')) (fun _ _ => False)), fun _ h => h, fun x H3 y => ?_⟩
            obtain ⟨s3, r3⟩ := wk.yld i H2 _ _ x H3 hlt rTk y
            rw [List.drop_eq_getElem_cons hlt] at w2
            intro bi
            have a3 : At (blkAt X scope bi) H3 ((D, .lst va) :: Ex) (wipe σ vs) g2 ((x, .d ds[i]) :: (va.zip acc ++ (Tk ++ (hidR σ g1 vs ++ T)))) [] := by
              refine .ofTop f2 (r3.perm (.cons _ ?_))
              refine (List.perm_append_comm_assoc _ _ _).trans ?_
              exact (List.perm_append_comm_assoc _ _ _).append_left _
            refine (hg bi).ex.choose_spec.2 (wipe σ vs) H3 _ g2 _ _ [] x _ (fun _ _ => False) a3 ?_
            have w3 : Wp (M.bd (set (.d ds[i])) _ g2) _ _ := w2
            refine w3.bd.imp (fun _ g4 kk4 σ4 e1 e2 a4 => ⟨?_, ?_⟩) fun _ _ z => z
            · rw [hvs] at e1
              rw [e1, wipe2 fun _ h => h]
            intro bj
            have ew : wipe σ4 vs = wipe σ vs := by
              rw [hvs] at e1
              rw [e1, wipe2 fun _ h => h]
            refine (ht bj).ex.choose_spec.2 σ4 H3 _ g4 _ _ [] a4.cx (kk4.bd.imp (fun b g5 kk5 H5 s5 a5 => ?_) fun _ _ z => z.elim)
            have fin : ∀ {H6 : Hp} {g6 : Gs} {acc' : List O} {va' : List V}, va'.length = acc'.length → acc'.length ≤ i + 1 → Fit σ4 g6 → Rel X.K X.mg H6 ((D, .lst va') :: Ex) (roots σ4 g6 ++ (va'.zip acc' ++ (Tk ++ (hidR σ g1 vs ++ T)))) [] →
                Wp (lcM vs set tst me (ds.drop (i + 1)) acc' (wipeG g6 vs)) (fun os' g' => Wp (.ok (.lst os') (restG g1 vs g')) (fun o g' => ∀ v H', (false = true → g' = g ∧ Same H H') → At X H' Ex σ g' ((v, o) :: T) (Vs false ws) → Q v H') (fun x g' => ∀ H' cls d, At X H' Ex σ g' T [] → ExAt X.mg Ex cls d H' x → W cls d σ H')) (fun _ _ => False) →
                ∃ m', m' < ds.length - i ∧ (m' = ds.length - (i + 1) ∧ i + 1 ≤ ds.length ∧ ∃ (acc : List O) (va : List V) (g2 : Gs), va.length = acc.length ∧ acc.length ≤ i + 1 ∧ Fit (wipe σ vs) g2 ∧ Rel X.K X.mg H6 ((D, .lst va) :: Ex) (roots (wipe σ vs) g2 ++ (va.zip acc ++ (Tk ++ (hidR σ g1 vs ++ T)))) [] ∧
                  Wp (lcM vs set tst me (ds.drop (i + 1)) acc g2) (fun os' g' => Wp (.ok (.lst os') (restG g1 vs g')) (fun o g' => ∀ v H', (false = true → g' = g ∧ Same H H') → At X H' Ex σ g' ((v, o) :: T) (Vs false ws) → Q v H') (fun x g' => ∀ H' cls d, At X H' Ex σ g' T [] → ExAt X.mg Ex cls d H' x → W cls d σ H')) (fun _ _ => False)) := by
              intro H6 g6 acc' va' h1 h2 f6 r6 w6
              refine ⟨_, by omega, rfl, hlt, acc', va', wipeG g6 vs, h1, h2, ?_, ?_, w6⟩
              · rw [← ew]; exact wipeFit f6 vs
              · rw [← ew]; exact wipeRel f6 r6
            cases b with
            | false => exact iteF (fin hva (by omega) a5.fit a5.noV.rel kk5)
            | true =>
              refine iteT ?_
              intro bk
              refine (he bk).ex.choose_spec.2 σ4 H5 _ g5 _ _ [] a5.noV.cx ((Wp.bd kk5).imp (fun o g6 kk6 y H6 s6 a6 => ?_) fun _ _ z => z.elim)
              obtain ⟨Hf, as, sm, hex, _⟩ := a6.rel.ex
              refine ⟨va, hex _ List.mem_cons_self, ?_, ?_⟩
              · rw [hva]
                exact Nat.lt_of_le_of_lt hacc (Nat.lt_of_lt_of_le hlt hsz)
              · refine fin (acc' := acc ++ [o]) (va' := va ++ [y]) (by simp [hva]) (by simp; omega) a6.fit ?_ kk6
                have r6 := a6.rel.write (.lst (va ++ [y]))
                refine r6.perm ?_
                rw [List.zip_append hva]
                simp only [List.zip_cons_cons, List.zip_nil_right, List.append_assoc]
                exact (List.perm_middle (a := (y, o))).symm.append_left _
          · have e : i = ds.length := by omega
            subst e
            rw [List.drop_length] at w2
            refine .inl ⟨wk.stop _ H2 _ _ (Nat.le_refl _) rTk, w2 _ H2 (fun z => by cases z) ?_⟩
            have r5 : Rel X.K X.mg H2 ((D, .lst va) :: Ex) (va.zip acc ++ (Tk ++ (roots (wipe σ vs) g2 ++ (hidR σ g1 vs ++ T)))) [] := by
              refine r2.perm ?_
              refine (List.perm_append_comm_assoc _ _ _).trans ?_
              exact (List.perm_append_comm_assoc _ _ _).append_left _
            have r6 := r5.shut (.lst (os := acc)) hva
            have r7 : Rel X.K X.mg H2 Ex (Tk ++ (roots (wipe σ vs) g2 ++ (hidR σ g1 vs ++ ((.ref D, .lst acc) :: T)))) [] := by
              refine r6.perm (List.Perm.symm ?_)
              refine ((List.perm_middle.append_left _).append_left _).trans ?_
              refine (List.perm_middle.append_left _).trans ?_
              exact List.perm_middle
            obtain ⟨f8, r8⟩ := restRel a1.fit vs f2 r7.dropL
            exact ⟨f8, r8⟩
    · exact kk.elim
  exact ⟨⟨_, pe_lc c.calm c.nd i1 ok p1 p2 p3 hs, core⟩, wi, tgU, ttU, teU, i1, p1, p2, p3, core⟩
end
end Z
namespace Z
open PySem PySem.Spec L2
def optAll : List (Option O) → Option (List O)
  | [] => some []
  | some o :: r => match optAll r with
    | some os => some (o :: os)
    | none => none
  | none :: _ => none
def isD : O → Bool
  | .d _ => true
  | _ => false
def finF (np : Nat) (os : List O) (o : O) (g : Gs) : FRes := match optAll (g.take np) with
  | some ps => .ok o (ps ++ os.drop np)
  | none => .bad
def Res.toFR : Res Fl → (Fl → Gs → FRes) → FRes
  | .ok fl g, k => k fl g
  | .ex x _, _ => .ex x
  | .bad, _ => .bad
  | .all f, k => .all fun v => (f v).toFR k
def Res.toF (r : Res Fl) (k : Fl → Gs → FRes) : FRes := match r with
  | .ok fl g => k fl g
  | .ex x _ => .ex x
  | .bad => .bad
  | .all f => .all fun v => (f v).toFR k
theorem Res.toFR_eq {k : Fl → Gs → FRes} : ∀ {r : Res Fl}, r.toFR k = r.toF k
  | .ok _ _ => rfl
  | .ex _ _ => rfl
  | .bad => rfl
  | .all _ => rfl
theorem Res.fw_toF {k : Fl → Gs → FRes} {A : O → List O → Prop} {B : Exn → Prop} : ∀ {r : Res Fl}, FW (r.toF k) A B ↔ Wp r (fun fl g => FW (k fl g) A B) (fun x _ => B x)
  | .ok fl g => Iff.rfl
  | .ex x _ => Iff.rfl
  | .bad => Iff.rfl
  | .all f => fw_all.trans ((forall_congr' fun v => by rw [Res.toFR_eq]; exact Res.fw_toF (r := f v)).trans wp_all.symm)
def endF (np : Nat) (os : List O) : Fl → Gs → FRes
  | .next, g => finF np os (.d .none) g
  | .ret o, g => finF np os o g
  | _, _ => .bad
def runF (np na nN : Nat) (m : M Fl) : Fn := fun os => if os.length = na ∧ (os.drop np).all isD = true then
    (m (os.map some ++ List.replicate (nN - na) none)).toF (endF np os)
  else .bad
theorem rootsApp : ∀ {s1 s2 : L2.St} {g1 g2 : Gs}, s1.length = g1.length → roots (s1 ++ s2) (g1 ++ g2) = roots s1 g1 ++ roots s2 g2
  | [], _, [], _, _ => by simp [roots]
  | s :: s1, s2, p :: g1, g2, h => by
    have ih := rootsApp (s1 := s1) (s2 := s2) (g1 := g1) (g2 := g2) (by simpa using h)
    cases s with
    | none => simpa only [List.cons_append, roots] using ih
    | some w => cases p <;> simp only [List.cons_append, roots, ih]
  | [], _, _ :: _, _, h => by simp at h
  | _ :: _, _, [], _, h => by simp at h
theorem rootsSome : ∀ {vs : List V} {os : List O}, vs.length = os.length → roots (vs.map some) (os.map some) = vs.zip os
  | [], [], _ => rfl
  | v :: vs, o :: os, h => by
    simp only [List.map_cons, roots, List.zip_cons_cons]
    rw [rootsSome (by simpa using h)]
  | [], _ :: _, h => by simp at h
  | _ :: _, [], h => by simp at h
theorem rootsRep : ∀ (n m : Nat), roots (List.replicate n none) (List.replicate m none) = []
  | 0, _ => by simp [roots]
  | n + 1, 0 => by simp [roots]
  | n + 1, m + 1 => by simp only [List.replicate_succ, roots]; exact rootsRep n m
theorem optAllMap : ∀ {l : List (Option O)} {os : List O}, optAll l = some os → l = os.map some
  | [], os, h => by simp only [optAll, Option.some.injEq] at h; subst h; rfl
  | some o :: r, os, h => by
    simp only [optAll] at h
    cases q : optAll r with
    | none => rw [q] at h; cases h
    | some y => rw [q] at h; cases h; rw [List.map_cons, ← optAllMap q]
  | none :: _, _, h => by simp [optAll] at h
section
variable {K : PySem.W.Frag} {mg : Str → Option Value} {H : Hp} {Ex : List (Addr × HO)} {T ws rs : Roots} {σ : L2.St} {g g1 : Gs}
theorem dupAll : ∀ {vs : List V} {os : List O} {rs : Roots}, os.all isD = true → Rel K mg H Ex (vs.zip os ++ rs) ws → Rel K mg H Ex (vs.zip os ++ (vs.zip os ++ rs)) ws
  | [], _, _, _, r => by simpa using r
  | _ :: _, [], _, _, r => by simpa using r
  | v :: vs, o :: os, rs, h, r => by
    simp only [List.all_cons, Bool.and_eq_true] at h
    cases o with
    | d x =>
      simp only [List.zip_cons_cons, List.cons_append] at r ⊢
      have r1 := r.dup
      have r2 : Rel K mg H Ex (vs.zip os ++ ((v, .d x) :: (v, .d x) :: rs)) ws := by
        refine r1.perm (List.Perm.symm ?_)
        exact List.perm_middle.trans (.cons _ List.perm_middle)
      have r3 := dupAll h.2 r2
      refine r3.perm ?_
      refine ((List.perm_middle.append_left _).trans List.perm_middle).trans (.cons _ ?_)
      exact (List.perm_middle.append_left _)
    | _ => simp [isD] at h
end
section
theorem fnG_of {CX : CXT} {P : Program} {w : World} {K : PySem.W.Frag} {mg : Str → Option Value} {base : Heap} {k : Nat} {f : Addr} {nm qual : Str} {pr : Arguments} {bd : List Stmt} {sc : Scope} {dV kV doc pm cdv ct oc : Value} {an od : Option Addr} {osl : Array (Option Value)} {N ps : List Str} {sp : Sp}
    (lk : K.lookup f = some ⟨oc, od, .func (PySem.W.fnOf nm qual pr bd sc dV kV doc pm an cdv ct), osl⟩) (hcd : PySem.W.codeIn K cdv qual = true) (S : FnScope N ps sc) (ln : ∀ vs H Q E, sp vs H Q E → vs.length = ps.length)
    (bo : ∀ (A : Around) (o : List Env) (s : Shared) (H : Hp) (vs : List V) (Q : VK) (E : XK), RoomG k (A.deeper (PyProof.Rows.envOfC qual sc s.heap.objs.size f cdv)) → sp vs H Q E →
      ∃ t, PSs (cxOf CX P w K mg base N qual sc f cdv A o s H E) bd t ∧ t { nx := fun _ H' => Q .non H', rt := Q } (L2.start N vs) H) : FnG P w K mg base CX (k + 1) f (PySem.W.fnOf nm qual pr bd sc dV kV doc pm an cdv ct) ps sp where
  len := ln
  run := by
    intro A o s H args us vs Q E hr e0 hb rv hsp
    have KX : K.In s.heap := e0.mod.kin.keeps fun b u z => (e0.bs b u z).1
    have lim : s.heap.NoLimit := e0.mod.nolimit.keeps fun b u z => (e0.bs b u z).1
    obtain ⟨t, ht, hq⟩ := bo A o s H vs Q E (hr.deeper _) hsp
    have par : ∀ y ∈ ps.zip us, sc.names.lookup y.1 = some .local ∨ (sc.names.lookup y.1 = some .cell ∧ ((cellsFrom (s.heap.objs.size + 1) sc.names []).lookup y.1).isSome = true) := by
      intro y hy
      obtain ⟨n, v⟩ := y
      have hn := (List.of_mem_zip hy).1
      exact (S.par n hn).imp id fun q => ⟨q, PySem.W.cellsFrom_some _ _ _ (.inl q)⟩
    refine codeAny_call_function hr.r.depth (KX _ _ lk) rfl S.co S.gen rfl (PySem.W.codeRec_of KX hcd) (hb _ _ _ _ (wpAny_newFunctionEnv_cells S.kind par fun env he s1 x => ?_))
    subst he
    refine ⟨lim.keeps x.toInCall.keep, codeAny_func ?_⟩
    refine wpAny_mono (ht.run [] s1 (L2.start N vs) H _ (inv_start S hr.hd e0 (ln _ _ _ _ hsp) rv x) hq) (fun fl s' z => ?_) fun e s' z => z
    cases fl with
    | ret u =>
      obtain ⟨v, σ', H', J, r1, q⟩ := z
      exact ⟨v, H', J.os, J.bare, J.base, J.hok, r1, q⟩
    | next =>
      obtain ⟨σ', H', J, q⟩ := z
      exact ⟨V.non, H', J.os, J.bare, J.base, J.hok, rfl, q⟩
    | brk =>
      obtain ⟨_, _, _, q⟩ := z
      exact q.elim
    | cont =>
      obtain ⟨_, _, _, q⟩ := z
      exact q.elim
end
section
variable {P : Program} {w : World} {K : PySem.W.Frag} {mg : Str → Option Value} {base : Heap}
/-- a def by its body -/
theorem funG {x qual : Str} {st : Stmt} {f : Addr} {fd : FuncData} {N ps : List Str} {k : Nat} {sp : Sp} (F : Fun K x qual st f fd) (S : FnScope N ps (defScope st)) (ln : ∀ vs H Q E, sp vs H Q E → vs.length = ps.length)
    (bo : ∀ (cdv : Value) (A : Around) (o : List Env) (s : Shared) (H : Hp) (vs : List V) (Q : VK) (E : XK), RoomG k (A.deeper (PyProof.Rows.envOfC qual (defScope st) s.heap.objs.size f cdv)) → sp vs H Q E →
      ∃ t, PSs (cxOf (L2.CX P w) P w K mg base N qual (defScope st) f cdv A o s H E) (defBody st) t ∧ t { nx := fun _ H' => Q .non H', rt := Q } (start N vs) H) : FnG P w K mg base (L2.CX P w) (k + 1) f fd ps sp := by
  obtain ⟨oc, od, kV, doc, pm, an, cdv, ct, osl, rfl, lk, hcd⟩ := F.ex
  exact fnG_of lk hcd S ln fun A o s H vs Q E hr hsp => bo cdv A o s H vs Q E hr hsp
theorem fnRule {x qual : Str} {st : Stmt} {f : Addr} {fd : FuncData} {N ps : List Str} {k : Nat} {m : M Fl} (np : Nat) (F : Fun K x qual st f fd) (S : FnScope N ps (defScope st)) (hnp : np ≤ ps.length)
    (hb : ∀ (cdv : Value) (A : Around) (outer : List Env) (s : Shared) (H : Hp) (E : XK), Cc (cxOf (L2.CX P w) P w K mg base N qual (defScope st) f cdv A outer s H E) (fun cls d _ H => E cls d H) k →
      EvSs (cxOf (L2.CX P w) P w K mg base N qual (defScope st) f cdv A outer s H E) (fun cls d _ H => E cls d H) np (defBody st) m) :
    FnG P w K mg base (L2.CX P w) (k + 1) f fd ps (spF K mg ps.length (runF np ps.length N.length m)) := by
  refine funG F S (fun vs H Q E h => h.1) (fun cdv A outer s H vs Q E hr h => ?_)
  obtain ⟨hvl, os, Ex, T, hol, r, w⟩ := h
  have c : Cc (cxOf (L2.CX P ‹World›) P ‹World› K mg base N qual (defScope st) f cdv A outer s H E) (fun cls d _ H => E cls d H) k := ⟨takes_of rfl rfl rfl rfl, hr, rfl, S.nd, passes_of rfl⟩
  obtain ⟨t, h1, h2⟩ := (hb cdv A outer s H E c).ex
  refine ⟨t, h1, ?_⟩
  unfold runF at w
  split at w
  · rename_i hcond
    obtain ⟨hol', hall⟩ := hcond
    have hvo : vs.length = os.length := hvl.trans hol.symm
    have hz : vs.zip os = (vs.take np).zip (os.take np) ++ (vs.drop np).zip (os.drop np) := by
      conv => lhs; rw [← List.take_append_drop np vs, ← List.take_append_drop np os]
      exact List.zip_append (by simp [hvo])
    have hroots : roots (L2.start N vs) (os.map some ++ List.replicate (N.length - ps.length) none) = vs.zip os := by
      unfold L2.start
      rw [rootsApp (by simp [hvo]), rootsSome hvo, rootsRep, List.append_nil]
    have a0 : At (cxOf (L2.CX P ‹World›) P ‹World› K mg base N qual (defScope st) f cdv A outer s H E) H Ex (L2.start N vs) (os.map some ++ List.replicate (N.length - ps.length) none) ((vs.drop np).zip (os.drop np) ++ T) [] := by
      refine ⟨⟨by unfold L2.start; simp [hvo, hvl, hol], fun i o hi => ?_⟩, ?_⟩
      · by_cases hlt : i < os.length
        · unfold L2.start
          rw [List.getElem?_append_left (by simpa [hvo] using hlt)]
          refine ⟨vs[i]'(by omega), ?_⟩
          rw [List.getElem?_map, List.getElem?_eq_getElem (by omega)]
          rfl
        · rw [List.getElem?_append_right (by simpa using hlt), List.getElem?_replicate] at hi
          split at hi <;> cases hi
      · rw [hroots]
        rw [hz, List.append_assoc] at r ⊢
        have r1 := r.perm (List.perm_append_comm_assoc _ _ _)
        have r2 := dupAll hall r1
        refine r2.perm ?_
        refine ((List.perm_append_comm_assoc _ _ _).append_left _).trans ?_
        exact List.perm_append_comm_assoc _ _ _
    -- the end: what the parameters hold
    have fin : ∀ {o : O} {g : Gs} {v : V} {σ' : L2.St} {H' : Hp}, FW (finF np os o g) (fun r ps' => ps'.length = ps.length ∧ ∀ v H', Rel K mg H' Ex ((v, r) :: (vs.zip ps' ++ T)) [] → Q v H') (fun x => ∀ H' cls d, Rel K mg H' Ex T [] → ExAt mg Ex cls d H' x → E cls d H') →
        Pin np (L2.start N vs) σ' → Fit σ' g → Rel K mg H' Ex ((v, o) :: (roots σ' g ++ ((vs.drop np).zip (os.drop np) ++ T))) [] → Q v H' := by
      intro o g v σ' H' fw pin fit rr
      unfold finF at fw
      cases q : optAll (g.take np) with
      | none => rw [q] at fw; exact fw.elim
      | some ps1 =>
        rw [q] at fw
        obtain ⟨hl, kq⟩ := fw
        refine kq v H' ?_
        have hg := optAllMap q
        have hps1 : ps1.length = np := by
          have : (ps1 ++ os.drop np).length = ps.length := hl
          rw [List.length_append, List.length_drop, hol] at this
          omega
        have hσ : σ'.take np = (vs.take np).map some := by
          apply List.ext_getElem?
          intro i
          by_cases hi : i < np
          · rw [List.getElem?_take_of_lt hi, pin i hi]
            unfold L2.start
            rw [List.getElem?_append_left (by simp [hvl]; omega), List.getElem?_map, List.getElem?_map, List.getElem?_take_of_lt hi]
          · rw [List.getElem?_eq_none (by simp; omega), List.getElem?_eq_none (by simp; omega)]
        have e1 : roots σ' g = (vs.take np).zip ps1 ++ roots (σ'.drop np) (g.drop np) := by
          conv => lhs; rw [← List.take_append_drop np σ', ← List.take_append_drop np g]
          rw [rootsApp (by simp [fit.len]), hσ, hg, rootsSome (by simp [hps1, hvl]; omega)]
        have e2 : vs.zip (ps1 ++ os.drop np) = (vs.take np).zip ps1 ++ (vs.drop np).zip (os.drop np) := by
          conv => lhs; rw [← List.take_append_drop np vs]
          exact List.zip_append (by simp [hps1, hvl]; omega)
        rw [e1] at rr
        rw [e2]
        have r1 : Rel K mg H' Ex (roots (σ'.drop np) (g.drop np) ++ ((v, o) :: ((vs.take np).zip ps1 ++ ((vs.drop np).zip (os.drop np) ++ T)))) [] := by
          refine rr.perm (List.Perm.symm ?_)
          refine List.perm_middle.trans (.cons _ ?_)
          rw [List.append_assoc]
          exact List.perm_append_comm_assoc _ _ _
        have r2 := r1.dropL
        rw [List.append_assoc]
        exact r2
    refine h2 (L2.start N vs) H _ _ _ Ex a0 ?_
    refine (Res.fw_toF.mp w).imp (fun fl g w => ?_) (fun x g w => ?_)
    · cases fl with
      | next =>
        intro σ' H' pin a'
        exact fin w pin a'.fit (a'.rel.data fun _ => .non)
      | ret o =>
        intro v σ' H' pin a'
        exact fin w pin a'.fit a'.top
      | brk => exact w.elim
      | cnt => exact w.elim
    · intro σ' H' cls d pin a' xa
      exact w H' cls d a'.rel.dropL.dropL xa
  · exact w.elim
end
section
variable {X : Cx} {W : WX} {pu pv pw : Bool} {H H' : Hp} {Ex : List (Addr × HO)} {σ σ' : L2.St} {g : Gs} {T T' ws ws' : Roots} {e a b o : Expr} {es : List Expr} {m : M O} {pos p apos : Pos} {k j np : Nat} {x : Str}
/-- a name made of a comprehension on one line -/
theorem es_setLc (i : Nat) {y : Str} {py spos : Pos} {tg iter elt : Expr} {ifs : List Expr} {scope : Scope} {own : List (Str × Nat)} {mi : M (List PyData)} {set : O → M Unit} {tst : M Bool} {me : M O} (c : Cc X W k) (hnp : np ≤ i) (hy : X.N[i]? = some y) (hyl : X.env.scope.names.lookup y = some .local)
    (hsw : swapsWith (.ListComp elt [⟨tg, iter, ifs, 0⟩] scope pos) (some (.Name y py)) spos.line X.env = pure true) (hi : EvI X W pu tg iter mi) (ok : BlkOk X.N X.env.scope scope own)
    (hg : ∀ i : BI, EvB (blkAt X scope i) (own.map (·.2)) tg set) (ht : ∀ i : BI, EvC (blkAt X scope i) WX0 pv ifs tst) (he : ∀ i : BI, Ev (blkAt X scope i) WX0 pw elt me) (hs : ∀ x, foldedSetIterable iter X.env x = pure x := by intro _; rfl) :
    EvS X W np (.Assign [.Name y py] (.ListComp elt [⟨tg, iter, ifs, 0⟩] scope pos) spos) (asgM (compM (own.map (·.2)) mi set tst me) (setM i)) := by
  obtain ⟨_, wi, tgU, ttU, teU, i1, p1, p2, p3, core⟩ := ev_comp (pos := pos) c hi ok hg ht he hs
  refine ⟨_, ps_setLc c.calm c.nd hy hyl hsw i1 ok p1 p2 p3 hs, fun σ H D g T Ex a w => ?_⟩
  refine core σ H _ g T Ex [] a (w.bd.imp (fun o g' kk v H' s a' => ?_) fun x g' kk H' cls d a' e => kk σ H' cls d .refl a' e)
  exact kk _ H' (Pin.set hnp) a'.noV.storeAny
end
end Z
namespace Z
open PySem PySem.Spec L2
section
variable {K : PySem.W.Frag} {mg : Str → Option Value} {H H' : Hp} {Ex : List (Addr × HO)} {T ws rs : Roots} {X : Cx}
theorem owAllD {Hf : Fz} : ∀ {vs : List V} {os : List O} {as : List Addr} {ds : List PyData}, OwL K mg Hf H vs os as → allD os = some ds → DpAll K Hf.h vs ds
  | _, _, _, ds, .nil, h => by simp only [allD, Option.some.injEq] at h; subst h; exact .nil
  | _, _, _, ds, .cons (o := o) (os := os) h t, e => by
    cases h with
    | d h =>
      simp only [allD] at e
      cases q : allD os with
      | none => rw [q] at e; cases e
      | some y => rw [q] at e; cases e; exact .cons h (owAllD t q)
    | _ => simp [allD] at e
theorem owOfD {Hf : Fz} : ∀ {vs : List V} {ds : List PyData}, DpAll K Hf.h vs ds → OwL K mg Hf H vs (ds.map O.d) []
  | _, _, .nil => .nil
  | _, _, .cons p q => .cons (as := []) (bs := []) (.d p) (owOfD q)
/-- the ground under a state: what is frozen, what is seen -/
theorem Rel.fr (r : Rel K mg H Ex rs ws) : ∃ Hf : Fz, Hf.on K H ∧ (∀ p ∈ ws, ∃ bs, Ow K mg Hf H p.1 p.2 bs) ∧ ∀ us ys, DpAll K Hf.h us ys → Rel K mg H Ex (us.zip (ys.map O.d) ++ rs) ws := by
  obtain ⟨Hf, as, s, he, ho, nd, hn, hw⟩ := r.ex
  refine ⟨Hf, s, hw, fun us ys h => ⟨Hf, as, s, he, ?_, nd, hn, hw⟩⟩
  obtain ⟨z1, z2⟩ := zipMap (l := us) (m := ys.map O.d) (by simpa using dpLen h)
  rw [List.map_append, List.map_append, z1, z2]
  exact owLApp (owOfD h) ho
def asL : O → Option (List PyData)
  | .d (.list ds) => some ds
  | .lst os => allD os
  | _ => none
def asT : O → Option (List PyData)
  | .d (.tuple ds) => some ds
  | _ => none
theorem owL {Hf : Fz} {v : V} {o : O} {as : List Addr} {ds : List PyData} (s : Hf.on K H) (h : Ow K mg Hf H v o as) (e : asL o = some ds) : ∃ a vs, v = .ref a ∧ SqL K H a vs ∧ DpAll K Hf.h vs ds := by
  cases h with
  | d h =>
    cases h with
    | lst h1 h2 =>
      simp only [asL, Option.some.injEq] at e
      subst e
      exact ⟨_, _, rfl, SqL.of (s.same _ _ h1), h2⟩
    | _ => simp [asL] at e
  | lst h t => exact ⟨_, _, rfl, SqL.of h, owAllD t (by simpa only [asL] using e)⟩
  | _ => simp [asL] at e
theorem owT {Hf : Fz} {v : V} {o : O} {as : List Addr} {ds : List PyData} (s : Hf.on K H) (h : Ow K mg Hf H v o as) (e : asT o = some ds) : ∃ a vs, v = .ref a ∧ SqT K H a vs ∧ DpAll K Hf.h vs ds := by
  cases h with
  | d h =>
    cases h with
    | tup h1 _ h2 =>
      simp only [asT, Option.some.injEq] at e
      subst e
      exact ⟨_, _, rfl, SqT.of (s.same _ _ h1), h2⟩
    | ftup h1 _ _ h2 =>
      simp only [asT, Option.some.injEq] at e
      subst e
      exact ⟨_, _, rfl, .inl (.inr ⟨_, s.same _ _ h1⟩), h2⟩
    | _ => simp [asT] at e
  | _ => simp [asT] at e
theorem owTD {Hf : Fz} {v : V} {o : O} {as : List Addr} {ds : List PyData} (h : Ow K mg Hf H v o as) (e : asT o = some ds) : Dp K Hf.h v (.tuple ds) := by
  cases h with
  | d h =>
    cases h with
    | tup h1 h0 h2 =>
      simp only [asT, Option.some.injEq] at e
      subst e
      exact .tup h1 h0 h2
    | ftup h1 h0 hj h2 =>
      simp only [asT, Option.some.injEq] at e
      subst e
      exact .ftup h1 h0 hj h2
    | _ => simp [asT] at e
  | _ => simp [asT] at e
theorem owDp {Hf : Fz} {v : V} {o : O} {as : List Addr} {x : PyData} (s : Hf.on K H) (h : Ow K mg Hf H v o as) (e : o.fz = some x) : Dp K H v x := dpMono (frzOn s.same as) (owFz s.same h e)
theorem owI {Hf : Fz} {v : V} {i : Int} {as : List Addr} (h : Ow K mg Hf H v (.d (.int i)) as) : v = .int i := by cases h with | d h => cases h; rfl
theorem owS {Hf : Fz} {v : V} {i : Str} {as : List Addr} (h : Ow K mg Hf H v (.d (.str i)) as) : v = .str i := by cases h with | d h => cases h; rfl
theorem owB {Hf : Fz} {v : V} {i : Bool} {as : List Addr} (h : Ow K mg Hf H v (.d (.bool i)) as) : v = .bl i := by cases h with | d h => cases h; rfl
theorem owN {Hf : Fz} {v : V} {as : List Addr} (h : Ow K mg Hf H v (.d .none) as) : v = .non := by cases h with | d h => cases h; rfl
/-- a new list of data, a new tuple of data -/
theorem Rel.mkLst {us : List V} {ys : List PyData} {p : Addr} (r : Rel K mg H Ex (us.zip (ys.map O.d) ++ rs) ws) (hl : us.length = ys.length) (hp : H p = none) : Rel K mg (upd H p (.lst us)) Ex ((.ref p, .lst (ys.map O.d)) :: rs) ws := r.newLst (by simpa using hl) hp
theorem mkTupD (ys : List PyData) : mkTup (ys.map O.d) = .d (.tuple ys) := by unfold mkTup; rw [allD_map]
theorem Rel.mkTupl {us : List V} {ys : List PyData} {Q : VK} (r : Rel K mg H Ex (us.zip (ys.map O.d) ++ rs) ws) (hl : us.length = ys.length) (k5 : ∀ v H', Same H H' → Rel K mg H' Ex ((v, .d (.tuple ys)) :: rs) ws → Q v H') : TupP H us Q :=
  r.newTup (os := ys.map O.d) (by simpa using hl) fun v H' s r' => k5 v H' s (by rwa [mkTupD] at r')
theorem dpApp {Hf : Hp} : ∀ {us vs : List V} {xs ys : List PyData}, DpAll K Hf us xs → DpAll K Hf vs ys → DpAll K Hf (us ++ vs) (xs ++ ys)
  | _, _, _, _, .nil, q => q
  | _, _, _, _, .cons a t, q => .cons a (dpApp t q)
theorem dpTake {Hf : Hp} : ∀ {us : List V} {xs : List PyData} (n : Nat), DpAll K Hf us xs → DpAll K Hf (us.take n) (xs.take n)
  | _, _, 0, _ => by simp only [List.take_zero]; exact .nil
  | _, _, n + 1, .nil => by simp only [List.take_nil]; exact .nil
  | _, _, n + 1, .cons a t => by simp only [List.take_succ_cons]; exact .cons a (dpTake n t)
theorem dpDrop {Hf : Hp} : ∀ {us : List V} {xs : List PyData} (n : Nat), DpAll K Hf us xs → DpAll K Hf (us.drop n) (xs.drop n)
  | _, _, 0, q => by simpa only [List.drop_zero] using q
  | _, _, n + 1, .nil => by simp only [List.drop_nil]; exact .nil
  | _, _, n + 1, .cons a t => by simp only [List.drop_succ_cons]; exact dpDrop n t
theorem dpGet? {Hf : Hp} : ∀ {vs : List V} {ds : List PyData} {i : Nat} {x : PyData}, DpAll K Hf vs ds → ds[i]? = some x → ∃ v, vs[i]? = some v ∧ Dp K Hf v x
  | _, _, _, _, .nil, h => by simp at h
  | _, _, 0, _, .cons a t, h => by simp only [List.getElem?_cons_zero, Option.some.injEq] at h; subst h; exact ⟨_, rfl, a⟩
  | _, _, i + 1, _, .cons a t, h => by simp only [List.getElem?_cons_succ] at h ⊢; exact dpGet? t h
def addF : List O → Option O
  | [.d (.int i), .d (.int j)] => some (.d (.int (i + j)))
  | [.d (.str i), .d (.str j)] => if lenOk (i.length + j.length) = true then some (.d (.str (i ++ j))) else none
  | [a, b] => match asL a, asL b with
    | some xs, some ys => if lenOk (xs.length + ys.length) = true then some (.lst ((xs ++ ys).map O.d)) else none
    | _, _ => match asT a, asT b with
      | some xs, some ys => if lenOk (xs.length + ys.length) = true then some (.d (.tuple (xs ++ ys))) else none
      | _, _ => none
  | _ => none
def rCatS (K : PySem.W.Frag) : R2 := fun x y H Q => ∃ l b xs zs, x = .ref l ∧ y = .ref b ∧ SqL K H l xs ∧ SqL K H b zs ∧ xs.length + zs.length ≤ sizeLine ∧ ∀ p, H p = none → Q (.ref p) (upd H p (.lst (xs ++ zs)))
open PyProof.Rows in
theorem op_catS : OpR X (binaryOp .Add) (rCatS X.K) := by
  intro pins s σ H x y v u Q I rx ry h
  obtain ⟨l, b, xs, zs, rfl, rfl, hH, hB, hz, q⟩ := h
  cases rx
  cases ry
  obtain ⟨its, r, ⟨⟨c1, d1, dt1, sl1⟩, n, e, hc, hd, hdt⟩, z⟩ := I.list hH
  obtain ⟨its2, r2, ⟨⟨c2, d2, dt2, sl2⟩, n2, e2, hc2, hd2, hdt2⟩, z2⟩ := I.list hB
  simp only at hc hdt hc2 hdt2
  subst hc hdt hc2 hdt2
  have hl := r.length
  have hl2 := r2.length
  refine concat_meets ⟨_, e, rfl⟩ ⟨_, e2, rfl⟩ noFill_list_add seq_list_add PySem.F.slot_list_add PySem.F.entry_list_add (PySem.F.args_list_add_2 _ _) (list_addW l b its.toArray its2.toArray n n2 d1 d2 sl1 sl2 (by rw [List.size_toArray, List.size_toArray]; omega)) ⟨e, e2, ?_⟩
  have ea : its.toArray ++ its2.toArray = (its ++ its2).toArray := by simp
  rw [ea]
  exact ⟨.ref _, _, I.lnew (t' := s.toks) (r.append r2) (by rw [List.length_append]; omega), rfl, q _ I.fresh⟩
/-- two tuples, one behind the other -/
def rCatE (K : PySem.W.Frag) : R2 := fun x y H Q => ∃ a b xs ys, (x = .ref a ∧ y = .ref b) ∧ (SqT K H a xs ∧ SqT K H b ys) ∧ xs.length + ys.length ≤ sizeLine ∧ (xs = [] → Q (.ref b) H) ∧ (xs ≠ [] → ys = [] → Q (.ref a) H) ∧ (xs ≠ [] → ys ≠ [] → TupP H (xs ++ ys) Q)
open PyProof.Rows in
theorem op_catE : OpR X (binaryOp .Add) (rCatE X.K) := by
  intro pins s σ H x y v u Q I rx ry h
  obtain ⟨a, b, xs, ys, ⟨ex, ey⟩, ⟨ta, tb⟩, hz, q0, q1, q2⟩ := h
  subst ex; subst ey
  cases rx; cases ry
  obtain ⟨us, r1, p1, _⟩ := I.tuple ta
  obtain ⟨ws, r2, p2, _⟩ := I.tuple tb
  by_cases hx : xs = []
  · subst hx
    cases r1
    exact cat_tup0 p1 p2 ⟨.ref b, H, I, rfl, q0 rfl⟩
  · have l1 := r1.length
    have l2 := r2.length
    refine HT.cat_tup p1 p2 (fun z => hx (r1.nil_iff.mp z)) (fun z => ⟨.ref a, H, I, rfl, q1 hx (r2.nil_iff.mp z)⟩) (fun z => ?_) (by omega)
    have e := invTup (t' := s.toks) I (r1.append r2) (by rw [List.length_append]; exact hz) (q2 hx fun w => z (r2.nil_iff.mpr w))
    exact e
def rAdd4 (K : PySem.W.Frag) : R2 := fun x y H Q => rI0 (fun i j => .int (i + j)) x y H Q ∨ (fun x y H Q => ∃ i j, x = V.str i ∧ y = V.str j ∧ i.length + j.length ≤ sizeLine ∧ Q (V.str (i ++ j)) H) x y H Q ∨ rCatS K x y H Q ∨ rCatE K x y H Q
theorem op_add4 : OpR X (binaryOp .Add) (rAdd4 X.K) := OpR.or op_add (OpR.or op_add_str (OpR.or op_catS op_catE))
theorem two {xs : List V} (h : xs.length = 2) : ∃ x y, xs = [x, y] := match xs, h with | [x, y], _ => ⟨x, y, rfl⟩
theorem one {xs : List V} (h : xs.length = 1) : ∃ x, xs = [x] := match xs, h with | [x], _ => ⟨x, rfl⟩
theorem zipHead {v : V} {o : O} {vs : List V} {os : List O} : (v, o) ∈ ((v :: vs).zip (o :: os)) ++ ws := by simp
theorem zipSnd {v u : V} {o o' : O} {vs : List V} {os : List O} : (u, o') ∈ ((v :: u :: vs).zip (o :: o' :: os)) ++ ws := by simp
theorem pr_add : PR X (r2L (rAdd4 X.K)) addF := by
  intro xs os H Ex rs ws Q o hl r hf k
  unfold addF at hf
  split at hf
  · rename_i i j
    cases hf
    obtain ⟨x, y, rfl⟩ := two hl
    obtain ⟨Hf, s, hw, cl⟩ := r.fr
    obtain ⟨_, h1⟩ := hw _ zipHead
    obtain ⟨_, h2⟩ := hw _ zipSnd
    obtain rfl := owI h1
    obtain rfl := owI h2
    exact .inl ⟨i, j, rfl, rfl, k _ _ (Same.refl _) (r.data fun _ => .int _)⟩
  · rename_i i j
    split at hf
    · rename_i hlen
      cases hf
      obtain ⟨x, y, rfl⟩ := two hl
      obtain ⟨Hf, s, hw, cl⟩ := r.fr
      obtain ⟨_, h1⟩ := hw _ zipHead
      obtain ⟨_, h2⟩ := hw _ zipSnd
      obtain rfl := owS h1
      obtain rfl := owS h2
      exact .inr (.inl ⟨i, j, rfl, rfl, lenOk_le hlen, k _ _ (Same.refl _) (r.data fun _ => .str _)⟩)
    · cases hf
  · rename_i a b _ _
    obtain ⟨x, y, rfl⟩ := two hl
    obtain ⟨Hf, s, hw, cl⟩ := r.fr
    obtain ⟨_, h1⟩ := hw _ zipHead
    obtain ⟨_, h2⟩ := hw _ zipSnd
    split at hf
    · rename_i xs ys e1 e2
      split at hf
      · rename_i hlen
        cases hf
        obtain ⟨l1, us, rfl, q1, p1⟩ := owL s h1 e1
        obtain ⟨l2, vs, rfl, q2, p2⟩ := owL s h2 e2
        have hz := lenOk_le hlen
        rw [← dpLen p1, ← dpLen p2] at hz
        refine .inr (.inr (.inl ⟨l1, l2, us, vs, rfl, rfl, q1, q2, hz, fun p hp => k _ _ (sameNew hp _) ?_⟩))
        exact (cl _ _ (dpApp p1 p2)).mkLst (dpLen (dpApp p1 p2)) hp
      · cases hf
    · split at hf
      · rename_i xs ys e1 e2
        split at hf
        · rename_i hlen
          cases hf
          obtain ⟨l1, us, rfl, q1, p1⟩ := owT s h1 e1
          obtain ⟨l2, vs, rfl, q2, p2⟩ := owT s h2 e2
          have hz := lenOk_le hlen
          have hn1 := dpLen p1
          have hn2 := dpLen p2
          rw [← hn1, ← hn2] at hz
          refine .inr (.inr (.inr ⟨l1, l2, us, vs, ⟨rfl, rfl⟩, ⟨q1, q2⟩, hz, fun z => ?_, fun z1 z2 => ?_, fun _ _ => ?_⟩))
          · subst z
            have e : xs = [] := List.length_eq_zero_iff.mp hn1.symm
            subst e
            refine k _ _ (Same.refl _) ?_
            have := cl [.ref l2] [.tuple ys] (.cons (owTD h2 e2) .nil)
            exact this
          · subst z2
            have e : ys = [] := List.length_eq_zero_iff.mp hn2.symm
            subst e
            simp only [List.append_nil] at k
            refine k _ _ (Same.refl _) ?_
            have := cl [.ref l1] [.tuple xs] (.cons (owTD h1 e1) .nil)
            exact this
          · exact (cl _ _ (dpApp p1 p2)).mkTupl (dpLen (dpApp p1 p2)) fun v H' s' r' => k v H' s' r'
        · cases hf
      · cases hf
  · cases hf
end
end Z
namespace Z
open PySem PySem.Spec L2
section
variable {K : PySem.W.Frag} {mg : Str → Option Value} {H H' : Hp} {Ex : List (Addr × HO)} {T ws rs : Roots} {X : Cx}
def i2F (c : Int → Int → Bool) (f : Int → Int → PyData) : List O → Option O
  | [.d (.int i), .d (.int j)] => if c i j = true then some (.d (f i j)) else none
  | _ => none
theorem pr_i2 {C : Int → Int → Prop} {gv : Int → Int → V} {c : Int → Int → Bool} {f : Int → Int → PyData} (hc : ∀ i j, c i j = true → C i j) (hd : ∀ i j Hf, Dp X.K Hf (gv i j) (f i j)) : PR X (r2L (rI C gv)) (i2F c f) := by
  intro xs os H Ex rs ws Q o hl r hf k
  unfold i2F at hf
  split at hf
  · rename_i i j
    split at hf
    · rename_i hcc
      cases hf
      obtain ⟨x, y, rfl⟩ := two hl
      obtain ⟨Hf, s, hw, cl⟩ := r.fr
      obtain ⟨_, h1⟩ := hw _ zipHead
      obtain ⟨_, h2⟩ := hw _ zipSnd
      obtain rfl := owI h1
      obtain rfl := owI h2
      exact ⟨i, j, rfl, rfl, hc i j hcc, k _ _ (Same.refl _) (r.data (hd i j))⟩
    · cases hf
  · cases hf
theorem pr_i20 {gv : Int → Int → V} {f : Int → Int → PyData} (hd : ∀ i j Hf, Dp X.K Hf (gv i j) (f i j)) : PR X (r2L (rI0 gv)) (i2F (fun _ _ => true) f) := by
  intro xs os H Ex rs ws Q o hl r hf k
  unfold i2F at hf
  split at hf
  · rename_i i j
    simp only [if_true] at hf
    cases hf
    obtain ⟨x, y, rfl⟩ := two hl
    obtain ⟨Hf, s, hw, cl⟩ := r.fr
    obtain ⟨_, h1⟩ := hw _ zipHead
    obtain ⟨_, h2⟩ := hw _ zipSnd
    obtain rfl := owI h1
    obtain rfl := owI h2
    exact ⟨i, j, rfl, rfl, k _ _ (Same.refl _) (r.data (hd i j))⟩
  · cases hf
def subF : List O → Option O := i2F (fun _ _ => true) fun i j => .int (i - j)
def mulC (i j : Int) : Bool := (decide (-18446744073709551616 < i) && decide (i < 18446744073709551616)) || (decide (-18446744073709551616 < j) && decide (j < 18446744073709551616))
def mulF : List O → Option O := i2F mulC fun i j => .int (i * j)
def divF : List O → Option O := i2F (fun _ j => decide (0 < j) && decide (j < 18446744073709551616)) fun i j => .int (i / j)
def modF : List O → Option O := i2F (fun _ j => decide (0 < j)) fun i j => .int (i % j)
def powC (i j : Int) : Bool := decide (0 ≤ j) && decide (j ≤ 1000000) && decide (i.natAbs < 18446744073709551616)
def powF : List O → Option O := i2F powC fun i j => .int (i ^ j.toNat)
def shlF : List O → Option O := i2F powC fun i j => .int (i * 2 ^ j.toNat)
def shrF : List O → Option O := i2F (fun _ j => decide (0 ≤ j)) fun i j => .int (i / 2 ^ j.toNat)
def andF : List O → Option O := i2F (fun _ _ => true) fun i j => .int (Builtin.bitAnd i j)
def orF : List O → Option O := i2F (fun _ _ => true) fun i j => .int (Builtin.bitOr i j)
def xorF : List O → Option O := i2F (fun _ _ => true) fun i j => .int (Builtin.bitXor i j)
def ltF : List O → Option O := i2F (fun _ _ => true) fun i j => .bool (decide (i < j))
def leF : List O → Option O := i2F (fun _ _ => true) fun i j => .bool (decide (i ≤ j))
def gtF : List O → Option O := i2F (fun _ _ => true) fun i j => .bool (decide (j < i))
def geF : List O → Option O := i2F (fun _ _ => true) fun i j => .bool (decide (j ≤ i))
theorem pr_sub : PR X (r2L (rI0 fun i j => .int (i - j))) subF := pr_i20 fun _ _ _ => .int _
theorem pr_and : PR X (r2L (rI0 fun i j => .int (Builtin.bitAnd i j))) andF := pr_i20 fun _ _ _ => .int _
theorem pr_or : PR X (r2L (rI0 fun i j => .int (Builtin.bitOr i j))) orF := pr_i20 fun _ _ _ => .int _
theorem pr_xor : PR X (r2L (rI0 fun i j => .int (Builtin.bitXor i j))) xorF := pr_i20 fun _ _ _ => .int _
theorem pr_lt : PR X (r2L (rI0 fun i j => .bl (decide (i < j)))) ltF := pr_i20 fun _ _ _ => .bl _
theorem pr_le : PR X (r2L (rI0 fun i j => .bl (decide (i ≤ j)))) leF := pr_i20 fun _ _ _ => .bl _
theorem pr_gt : PR X (r2L (rI0 fun i j => .bl (decide (j < i)))) gtF := pr_i20 fun _ _ _ => .bl _
theorem pr_ge : PR X (r2L (rI0 fun i j => .bl (decide (j ≤ i)))) geF := pr_i20 fun _ _ _ => .bl _
theorem pr_mul : PR X (r2L (rI CMul fun i j => .int (i * j))) mulF := pr_i2 (fun i j h => by
  unfold mulC at h
  simp only [Bool.or_eq_true, Bool.and_eq_true, decide_eq_true_eq] at h
  unfold CMul
  rcases h with h | h
  · exact .inl ⟨by omega, by omega⟩
  · exact .inr ⟨by omega, by omega⟩) fun _ _ _ => .int _
theorem pr_div : PR X (r2L (rI CDivW fun i j => .int (i / j))) divF := pr_i2 (fun i j h => by
  simp only [Bool.and_eq_true, decide_eq_true_eq] at h
  exact wide_div (b := 64) h.1 (by have := h.2; omega) (by decide) (by decide)) fun _ _ _ => .int _
theorem pr_mod : PR X (r2L (rI (fun _ j => 0 < j) fun i j => .int (i % j))) modF := pr_i2 (fun i j h => of_decide_eq_true h) fun _ _ _ => .int _
theorem powC_ok {i j : Int} (h : powC i j = true) : CPow i j := by
  unfold powC at h
  simp only [Bool.and_eq_true, decide_eq_true_eq] at h
  exact ⟨h.1.1, h.1.2, by have := h.2; omega⟩
theorem pr_pow : PR X (r2L (rI CPow fun i j => .int (i ^ j.toNat))) powF := pr_i2 (fun i j h => powC_ok h) fun _ _ _ => .int _
theorem pr_shl : PR X (r2L (rI CPow fun i j => .int (i * 2 ^ j.toNat))) shlF := pr_i2 (fun i j h => powC_ok h) fun _ _ _ => .int _
theorem pr_shr : PR X (r2L (rI (fun _ j => 0 ≤ j) fun i j => .int (i / 2 ^ j.toNat))) shrF := pr_i2 (fun i j h => of_decide_eq_true h) fun _ _ _ => .int _
def negF : List O → Option O
  | [.d (.int i)] => some (.d (.int (-i)))
  | _ => none
theorem pr_neg : PR X (r1L (rU fun i => .int (-i))) negF := by
  intro xs os H Ex rs ws Q o hl r hf k
  unfold negF at hf
  split at hf
  · rename_i i
    cases hf
    obtain ⟨x, rfl⟩ := one hl
    obtain ⟨Hf, s, hw, cl⟩ := r.fr
    obtain ⟨_, h1⟩ := hw _ zipHead
    obtain rfl := owI h1
    exact ⟨i, rfl, k _ _ (Same.refl _) (r.data fun _ => .int _)⟩
  · cases hf
def eqB (a b : O) : Option Bool := match a.fz, b.fz with
  | some (.str x), some (.str y) => some (x == y)
  | some d, some e => if SeqAt.shaped d = true ∧ SeqAt.shaped e = true then some (PyData.eqv d e) else none
  | _, _ => none
def eqF : List O → Option O
  | [a, b] => match eqB a b with | some k => some (.d (.bool k)) | none => none
  | _ => none
def neF : List O → Option O
  | [a, b] => match eqB a b with | some k => some (.d (.bool (!k))) | none => none
  | _ => none
def rEq2 (K : PySem.W.Frag) : R2 := fun x y H Q => rEq x y H Q ∨ rEqD K x y H Q
def rNe2 (K : PySem.W.Frag) : R2 := fun x y H Q => rNe x y H Q ∨ rNeD K x y H Q
theorem op_eq2 (hu : X.A.units + 64 < cLine) : OpR X (compareOp .Eq) (rEq2 X.K) := OpR.or op_eq (op_eqD hu)
theorem op_ne2 (hu : X.A.units + 64 < cLine) : OpR X (compareOp .NotEq) (rNe2 X.K) := OpR.or op_ne (op_neD hu)
theorem eqB_ok {Hf : Fz} {x y : V} {a b : O} {as bs : List Addr} {k : Bool} (s : Hf.on K H) (h1 : Ow K mg Hf H x a as) (h2 : Ow K mg Hf H y b bs) (e : eqB a b = some k) :
    (∃ u v, x = .str u ∧ y = .str v ∧ k = (u == v)) ∨ ∃ d e, L2.Dp K H x d ∧ L2.Dp K H y e ∧ SeqAt.shaped d = true ∧ SeqAt.shaped e = true ∧ k = PyData.eqv d e := by
  unfold eqB at e
  split at e
  · rename_i u v e1 e2
    cases e
    have d1 := owDp s h1 e1
    have d2 := owDp s h2 e2
    cases d1; cases d2
    exact .inl ⟨u, v, rfl, rfl, rfl⟩
  · rename_i d e' _ e1 e2
    split at e
    · rename_i hs
      cases e
      exact .inr ⟨d, e', dpTo (owDp s h1 e1), dpTo (owDp s h2 e2), hs.1, hs.2, rfl⟩
    · cases e
  · cases e
theorem pr_eq : PR X (r2L (rEq2 X.K)) eqF := by
  intro xs os H Ex rs ws Q o hl r hf k
  unfold eqF at hf
  split at hf
  · rename_i a b
    cases q : eqB a b with
    | none => rw [q] at hf; cases hf
    | some kk =>
      rw [q] at hf
      cases hf
      obtain ⟨x, y, rfl⟩ := two hl
      obtain ⟨Hf, s, hw, cl⟩ := r.fr
      obtain ⟨_, h1⟩ := hw _ zipHead
      obtain ⟨_, h2⟩ := hw _ zipSnd
      have fin := k (.bl kk) _ (Same.refl _) (r.data fun _ => .bl _)
      rcases eqB_ok s h1 h2 q with ⟨u, v, e1, e2, e3⟩ | ⟨d, e, d1, d2, s1, s2, e3⟩
      · simp only at e1 e2
        subst e1; subst e2; subst e3
        refine .inl ⟨rfl, ?_⟩
        rw [dec_str]
        exact fin
      · subst e3
        exact .inr ⟨d, e, d1, d2, s1, s2, fin⟩
  · cases hf
theorem pr_ne : PR X (r2L (rNe2 X.K)) neF := by
  intro xs os H Ex rs ws Q o hl r hf k
  unfold neF at hf
  split at hf
  · rename_i a b
    cases q : eqB a b with
    | none => rw [q] at hf; cases hf
    | some kk =>
      rw [q] at hf
      cases hf
      obtain ⟨x, y, rfl⟩ := two hl
      obtain ⟨Hf, s, hw, cl⟩ := r.fr
      obtain ⟨_, h1⟩ := hw _ zipHead
      obtain ⟨_, h2⟩ := hw _ zipSnd
      have fin := k (.bl (!kk)) _ (Same.refl _) (r.data fun _ => .bl _)
      rcases eqB_ok s h1 h2 q with ⟨u, v, e1, e2, e3⟩ | ⟨d, e, d1, d2, s1, s2, e3⟩
      · simp only at e1 e2
        subst e1; subst e2; subst e3
        refine .inl ⟨rfl, ?_⟩
        rw [dec_str]
        exact fin
      · subst e3
        exact .inr ⟨d, e, d1, d2, s1, s2, fin⟩
  · cases hf
def flatD : PyData → Bool
  | .none => true | .bool _ => true | .int _ => true | .str _ => true | _ => false
theorem flat_of {Hf : Hp} {v : V} {d : PyData} (h : Dp K Hf v d) (f : flatD d = true) : flatV v = true := by cases h <;> first | rfl | simp [flatD] at f
theorem flatAll_of {Hf : Hp} : ∀ {vs : List V} {ds : List PyData}, DpAll K Hf vs ds → ds.all flatD = true → vs.all flatV = true
  | _, _, .nil, _ => rfl
  | _, _, .cons a t, f => by
    simp only [List.all_cons, Bool.and_eq_true] at f ⊢
    exact ⟨flat_of a f.1, flatAll_of t f.2⟩
theorem eqV_of {Hf : Hp} {v u : V} {d e : PyData} (h : Dp K Hf v d) (h2 : Dp K Hf u e) (f : flatD d = true) (f2 : flatD e = true) : eqV v u = PyData.eqv d e := by
  cases h <;> cases h2 <;> first | (simp [flatD] at f; done) | (simp [flatD] at f2; done) | simp [eqV, PyData.eqv]
theorem inV_of {Hf : Hp} {u : V} {e : PyData} (h2 : Dp K Hf u e) (f2 : flatD e = true) : ∀ {vs : List V} {ds : List PyData}, DpAll K Hf vs ds → ds.all flatD = true → inV u vs = ds.any fun z => PyData.eqv z e
  | _, _, .nil, _ => rfl
  | _, _, .cons a t, f => by
    simp only [List.all_cons, Bool.and_eq_true] at f
    have ih := inV_of h2 f2 t f.2
    unfold inV at ih ⊢
    simp only [List.any_cons, ih, eqV_of a h2 f.1 f2]
def asLT (o : O) : Option (List PyData) := match asL o with
  | some ds => some ds
  | none => match o with
    | .gL ds => some ds
    | .gT ds => some ds
    | o => asT o
def inB (a b : O) : Option Bool := match a, b with
  | .d (.str x), .d (.str z) => match x.cps.toList with
    | [c] => some (decide (c ∈ z.cps.toList))
    | _ => none
  | .d e, b => match asLT b with
    | some ds => if flatD e = true ∧ ds.all flatD = true then some (ds.any fun z => PyData.eqv z e) else none
    | none => none
  | _, _ => none
def rInS (neg : Bool) : R2 := fun x y H Q => ∃ (c : Nat) (z : Str), x = .str ⟨#[c]⟩ ∧ y = .str z ∧ Q (.bl (if neg then !decide (c ∈ z.cps.toList) else decide (c ∈ z.cps.toList))) H
def rIn2 (K : PySem.W.Frag) (neg : Bool) : R2 := fun x y H Q => rInS neg x y H Q ∨ rIn K neg x y H Q
theorem op_in2 : OpR X (compareOp .In) (rIn2 X.K false) := OpR.or op_in_sign op_in_seq
theorem op_notIn2 : OpR X (compareOp .NotIn) (rIn2 X.K true) := OpR.or op_notIn_sign op_notIn_seq
def inF (neg : Bool) : List O → Option O
  | [a, b] => match inB a b with | some k => some (.d (.bool (if neg then !k else k))) | none => none
  | _ => none
theorem owLTseq {Hf : Fz} {v : V} {o : O} {as : List Addr} {ds : List PyData} (s : Hf.on K H) (h : Ow K mg Hf H v o as) (e : asLT o = some ds) : ∃ a vs, v = .ref a ∧ (SqL K H a vs ∨ SqT K H a vs) ∧ DpAll K Hf.h vs ds := by
  unfold asLT at e
  split at e
  · rename_i ds' e1
    cases e
    obtain ⟨a, vs, e2, q, p⟩ := owL s h e1
    exact ⟨a, vs, e2, .inl q, p⟩
  · split at e
    · cases e
      cases h with
      | gL q p => exact ⟨_, _, rfl, .inl (s.seq q), p⟩
    · cases e
      cases h with
      | gT q p => exact ⟨_, _, rfl, .inr (sameT s.same q), p⟩
    · obtain ⟨a, vs, e2, q, p⟩ := owT s h e
      exact ⟨a, vs, e2, .inr q, p⟩
theorem str1 {x : Str} {c : Nat} (h : x.cps.toList = [c]) : x = ⟨#[c]⟩ := by
  obtain ⟨cs⟩ := x
  have : cs = #[c] := by
    apply Array.toList_inj.mp
    simpa using h
  rw [this]
theorem pr_in {neg : Bool} : PR X (r2L (rIn2 X.K neg)) (inF neg) := by
  intro xs os H Ex rs ws Q o hl r hf k
  unfold inF at hf
  split at hf
  · rename_i a b
    cases q : inB a b with
    | none => rw [q] at hf; cases hf
    | some kk =>
      rw [q] at hf
      cases hf
      obtain ⟨x, y, rfl⟩ := two hl
      obtain ⟨Hf, s, hw, cl⟩ := r.fr
      obtain ⟨_, h1⟩ := hw _ zipHead
      obtain ⟨_, h2⟩ := hw _ zipSnd
      have fin := k (.bl (if neg then !kk else kk)) _ (Same.refl _) (r.data fun _ => .bl _)
      unfold inB at q
      split at q
      · rename_i u z
        split at q
        · rename_i c hc
          cases q
          have e1 := owS h1
          have e2 := owS h2
          simp only at e1 e2
          subst e1; subst e2
          exact .inl ⟨c, z, by rw [str1 hc], rfl, fin⟩
        · cases q
      · rename_i e b' _
        split at q
        · rename_i ds e1
          split at q
          · rename_i hfl
            cases q
            obtain ⟨ad, vs, e2, sq, p⟩ := owLTseq s h2 e1
            simp only at e2
            subst e2
            cases h1 with
            | d h1 =>
              refine .inr ⟨ad, vs, rfl, sq, flat_of h1 hfl.1, flatAll_of p hfl.2, ?_⟩
              rw [inV_of h1 hfl.1 p hfl.2]
              exact fin
          · cases q
        · cases q
      · cases q
  · cases hf
def ixF : List O → Option O
  | [.d (.str z), .d (.int i)] => if lenOk z.length = true then match atI z.cps.toList i with
      | some c => some (.d (.str ⟨#[c]⟩))
      | none => none else none
  | [a, .d (.int i)] => match asLT a with
    | some ds => match atI ds i with
      | some x => some (.d x)
      | none => none
    | none => none
  | _ => none
theorem atI_dp {Hf : Hp} {vs : List V} {ds : List PyData} {i : Int} {x : PyData} (h : DpAll K Hf vs ds) (e : atI ds i = some x) : ∃ v, atI vs i = some v ∧ Dp K Hf v x := by
  unfold atI at e ⊢
  rw [dpLen h]
  cases q : ixN ds.length i with
  | none => rw [q] at e; cases e
  | some j =>
    rw [q] at e
    simp only [Option.bind_some] at e ⊢
    exact dpGet? h e
theorem pr_ix : PR X (r2L (rIx X.K)) ixF := by
  intro xs os H Ex rs ws Q o hl r hf k
  unfold ixF at hf
  split at hf
  · rename_i z i
    split at hf
    · rename_i hlen
      split at hf
      · rename_i c hc
        cases hf
        obtain ⟨x, y, rfl⟩ := two hl
        obtain ⟨Hf, s, hw, cl⟩ := r.fr
        obtain ⟨_, h1⟩ := hw _ zipHead
        obtain ⟨_, h2⟩ := hw _ zipSnd
        obtain rfl := owS h1
        obtain rfl := owI h2
        exact .inr (.inr ⟨z, i, c, rfl, rfl, lenOk_le hlen, hc, k _ _ (Same.refl _) (r.data fun _ => .str _)⟩)
      · cases hf
    · cases hf
  · rename_i a i _
    split at hf
    · rename_i ds e1
      split at hf
      · rename_i y e2
        cases hf
        obtain ⟨x, y, rfl⟩ := two hl
        obtain ⟨Hf, s, hw, cl⟩ := r.fr
        obtain ⟨_, h1⟩ := hw _ zipHead
        obtain ⟨_, h2⟩ := hw _ zipSnd
        obtain rfl := owI h2
        obtain ⟨ad, vs, e3, sq, p⟩ := owLTseq s h1 e1
        simp only at e3
        subst e3
        obtain ⟨v, e4, dv⟩ := atI_dp p e2
        have fin := k v _ (Same.refl _) (cl [v] _ (.cons dv .nil))
        rcases sq with sq | sq
        · exact .inl ⟨ad, vs, i, v, rfl, rfl, sq, e4, fin⟩
        · exact .inr (.inl ⟨ad, vs, i, v, rfl, rfl, sq, e4, fin⟩)
      · cases hf
    · cases hf
  · cases hf
end
end Z
namespace Z
open PySem PySem.Spec L2
section
variable {X : Cx} {W : WX} {pu pv pw : Bool} {H H' : Hp} {Ex : List (Addr × HO)} {σ σ' : L2.St} {g : Gs} {T T' ws ws' rs : Roots} {e a b o lo hi : Expr} {es : List Expr} {m : M O} {ms : M (List O)} {pos p p2 apos : Pos} {k j np : Nat} {x : Str}
theorem ev_ix {r : R2} {f : List O → Option O} (hr : IxR X r) (pr : PR X (r2L r) f) (h : EvAs X W pu [a, b] ms) (hs : PlainIx b := by exact fun _ _ => rfl) : Ev X W pu (.Subscript a b pos) (opM f ms) := by
  obtain ⟨ts, g1, g2⟩ := h.ex
  cases g1 with
  | cons p1 _ g1 =>
    cases g1 with
    | cons p2 _ g1 =>
      cases g1
      exact ⟨_, pe_ix hr p1 p2 hs, opCore pr g2⟩
/-- a slice of a tuple; the whole of it is the tuple itself -/
def rSlE (K : PySem.W.Frag) : V → Option Int → Option Int → Hp → VK → Prop := fun x lo hi H Q => ∃ a xs, x = .ref a ∧ SqT K H a xs ∧ ((HT.sIx xs.length 0 lo = 0 ∧ HT.sIx xs.length xs.length hi = xs.length) → Q (.ref a) H) ∧
  (¬ (HT.sIx xs.length 0 lo = 0 ∧ HT.sIx xs.length xs.length hi = xs.length) → TupP H (cutV xs lo hi) Q)
open PyProof.Rows in
theorem sl_tupE : SlR X (rSlE X.K) := by
  intro pins s σ H x v vl vu lo hi sl Q I rx hs pl pu h
  obtain ⟨a, xs, ex, ta, w1, w2⟩ := h
  subst ex
  cases rx
  obtain ⟨us, r, tt, hz⟩ := I.tuple ta
  have eu : us.toArray.size = xs.length := by rw [List.size_toArray, r.length]
  refine ⟨"tuple", _, slot_tuple_getitem.lookup, tt.typeIs, ?_⟩
  by_cases hw : HT.sIx xs.length 0 lo = 0 ∧ HT.sIx xs.length xs.length hi = xs.length
  · exact getItem_tuple_whole tt hs pl pu (by rw [eu]; exact hw) ⟨.ref a, H, I, rfl, w1 hw⟩
  · refine HT.getItem_tuple_cut tt hs pl pu (by rw [eu]; exact hw) ?_ (by rw [eu]; exact hz)
    rw [eu]
    have r2 := (r.drop (HT.sIx xs.length 0 lo)).take (HT.sIx xs.length xs.length hi - HT.sIx xs.length 0 lo)
    exact invTup (t' := s.toks) I r2 (Nat.le_trans (cutV_length xs lo hi) hz) (w2 hw)
/-- tuple(..) of a list, of a tuple -/
theorem call_tupE : CallR X (.type "tuple") (fun xs H Q => ∃ p ys, xs = [.ref p] ∧ ((SqL X.K H p ys ∧ TupP H ys Q) ∨ (SqT X.K H p ys ∧ Q (.ref p) H))) := by
  intro pins s σ H xs us Q I r h
  obtain ⟨p, ys, ex, h⟩ := h
  subst ex
  obtain ⟨u, eu, rx⟩ := vals1 r
  subst eu
  cases rx
  rcases h with ⟨hq, w⟩ | ⟨hq, w⟩
  · obtain ⟨its, r', pl, hz⟩ := I.list hq
    have hlen := r'.length
    refine call_tuple_list pl.isList (fun h' kp => ?_) (by rw [List.size_toArray]; omega)
    exact invTup (s := { s with heap := h' }) (t' := s.toks) (I.kept (t' := s.toks) kp) r' hz w
  · obtain ⟨its, r', pl, hz⟩ := I.tuple hq
    exact call_tuple_same pl ⟨.ref p, H, I, rfl, w⟩
def rSlAll (K : PySem.W.Frag) : V → Option Int → Option Int → Hp → VK → Prop := fun x lo hi H Q => rSlL K x lo hi H Q ∨ rSlE K x lo hi H Q ∨ rSlS x lo hi H Q
theorem sl_all : SlR X (rSlAll X.K) := SlR.or sl_list (SlR.or sl_tupE sl_str)
def cutD {α : Type} (xs : List α) (lo hi : Option Int) : List α := (xs.drop (HT.sIx xs.length 0 lo)).take (HT.sIx xs.length xs.length hi - HT.sIx xs.length 0 lo)
def slB (o : O) (lo hi : Option Int) : Option O := match o with
  | .d (.str z) => if lenOk z.length = true then some (.d (.str (cutS z lo hi))) else none
  | o => match asL o with
    | some ds => some (.lst ((cutD ds lo hi).map O.d))
    | none => match asT o with
      | some ds => some (.d (.tuple (cutD ds lo hi)))
      | none => none
theorem cut_dp {K : PySem.W.Frag} {Hf : Hp} {vs : List V} {ds : List PyData} (h : DpAll K Hf vs ds) (lo hi : Option Int) : DpAll K Hf (cutV vs lo hi) (cutD ds lo hi) := by
  unfold cutV cutD
  rw [dpLen h]
  exact dpTake _ (dpDrop _ h)
theorem slB_ok {v : V} {o o' : O} {lo hi : Option Int} {Q : VK} (r : Rel X.K X.mg H Ex rs ws) (hv : (v, o) ∈ ws) (e : slB o lo hi = some o') (k : ∀ v H', Same H H' → Rel X.K X.mg H' Ex ((v, o') :: rs) ws → Q v H') : rSlAll X.K v lo hi H Q := by
  obtain ⟨Hf, s, hw, cl⟩ := r.fr
  obtain ⟨_, h1⟩ := hw _ hv
  unfold slB at e
  split at e
  · rename_i z
    split at e
    · rename_i hl
      cases e
      obtain rfl := owS h1
      exact .inr (.inr ⟨z, rfl, lenOk_le hl, k _ _ (Same.refl _) (r.data fun _ => .str _)⟩)
    · cases e
  · rename_i o _
    split at e
    · rename_i ds e1
      cases e
      obtain ⟨ad, vs, e2, sq, pp⟩ := owL s h1 e1
      simp only at e2
      subst e2
      refine .inl ⟨ad, vs, rfl, sq, fun q hq => k _ _ (sameNew hq _) ?_⟩
      exact (cl _ _ (cut_dp pp lo hi)).mkLst (dpLen (cut_dp pp lo hi)) hq
    · split at e
      · rename_i ds e1
        cases e
        have hD := owTD h1 e1
        obtain ⟨ad, vs, e2, sq, pp⟩ := owT s h1 e1
        simp only at e2
        subst e2
        refine .inr (.inl ⟨ad, vs, rfl, sq, fun hwhole => k _ _ (Same.refl _) ?_, fun _ => ?_⟩)
        · have e3 : cutD ds lo hi = ds := by
            unfold cutD
            rw [dpLen pp] at hwhole
            rw [hwhole.1, hwhole.2, List.drop_zero, Nat.sub_zero, List.take_length]
          rw [e3]
          exact cl [_] [_] (.cons hD .nil)
        · exact (cl _ _ (cut_dp pp lo hi)).mkTupl (dpLen (cut_dp pp lo hi)) fun v H' s' r' => k v H' s' r'
      · cases e
def slF (l h : Bool) : List O → Option O
  | [a] => if l = false ∧ h = false then slB a none none else none
  | [a, .d (.int i)] => if l = true ∧ h = false then slB a (some i) none else if l = false ∧ h = true then slB a none (some i) else none
  | [a, .d (.int i), .d (.int j)] => if l = true ∧ h = true then slB a (some i) (some j) else none
  | _ => none
theorem ev_slLo (h : EvAs X W pu [a, lo] ms) : Ev X W pu (.Subscript a (.Slice (some lo) none none p2) pos) (opM (slF true false) ms) := by
  obtain ⟨ts, g1, g2⟩ := h.ex
  cases g1 with
  | cons p1 _ g1 =>
    cases g1 with
    | cons p2 _ g1 =>
      cases g1
      refine ⟨_, pe_slice sl_all p1 (po_some p2) po_none, opCore (r := fun xs H Q => match xs with | [x, y] => ∃ i, y = V.int i ∧ rSlAll X.K x (some i) none H Q | _ => False) (fun xs os H Ex rs ws Q o hl r hf kk => ?_) g2⟩
      unfold slF at hf
      split at hf
      · simp at hf
      · rename_i a i
        simp only [and_self, if_true] at hf
        obtain ⟨x, y, rfl⟩ := two hl
        obtain ⟨Hf, s, hw, cl⟩ := r.fr
        obtain ⟨_, h2⟩ := hw _ zipSnd
        exact ⟨i, owI h2, slB_ok r zipHead hf kk⟩
      · simp at hf
      · cases hf
theorem ev_slHi (h : EvAs X W pu [a, hi] ms) : Ev X W pu (.Subscript a (.Slice none (some hi) none p2) pos) (opM (slF false true) ms) := by
  obtain ⟨ts, g1, g2⟩ := h.ex
  cases g1 with
  | cons p1 _ g1 =>
    cases g1 with
    | cons p2 _ g1 =>
      cases g1
      refine ⟨_, pe_slice sl_all p1 po_none (po_some p2), opCore (r := fun xs H Q => match xs with | [x, y] => ∃ i, y = V.int i ∧ rSlAll X.K x none (some i) H Q | _ => False) (fun xs os H Ex rs ws Q o hl r hf kk => ?_) g2⟩
      unfold slF at hf
      split at hf
      · simp at hf
      · rename_i a i
        simp at hf
        obtain ⟨x, y, rfl⟩ := two hl
        obtain ⟨Hf, s, hw, cl⟩ := r.fr
        obtain ⟨_, h2⟩ := hw _ zipSnd
        exact ⟨i, owI h2, slB_ok r zipHead hf kk⟩
      · simp at hf
      · cases hf
def asI : O → M Int := fun o g => match o with
  | .d (.int b) => .ok b g
  | _ => .bad
theorem wpI {o : O} {g : Gs} {A : Int → Gs → Prop} {B : Exn → Gs → Prop} (h : Wp (asI o g) A B) : ∃ b, o = .d (.int b) ∧ A b g := by
  unfold asI at h
  split at h
  · exact ⟨_, rfl, h⟩
  · exact h.elim
def optM (o : Option O) : M O := fun g => match o with
  | some r => .ok r g
  | none => .bad
theorem wpOpt {o : Option O} {g : Gs} {A : O → Gs → Prop} {B : Exn → Gs → Prop} (h : Wp (optM o g) A B) : ∃ b, o = some b ∧ A b g := by
  unfold optM at h
  split at h
  · exact ⟨_, rfl, h⟩
  · exact h.elim
def slLhM (ma ml mh : M O) : M O := M.bd ma fun o => M.bd ml fun oi => M.bd (asI oi) fun i => M.bd mh fun oj => M.bd (asI oj) fun j => optM (slB o (some i) (some j))
theorem ev_bi {id : String} {r : List V → Hp → VK → Prop} {f : List O → Option O} (hc : CallR X (.builtin id) r) (pr : PR X r f) (hm : X.mg x = none) (hv : bootBuiltins x = some (.builtin id)) (h : EvAs X W pu (e :: es) ms) (hg : Gl X x := by rfl)
    (hn : x ≠ "__name__" := by decide) (hdb : (x == ("__debug__" : Str)) = false := by decide) (he : starEach (e :: es) X.env = (false, eval e X.env) :: starEach es X.env := by rfl) (hpl : (backTo pos (starEach es X.env)).any (·.1) = false := by rfl) : Ev X W pu (.Call (.Name x p) (e :: es) [] pos) (opM f ms) := by
  obtain ⟨ts, g1, g2⟩ := h.ex
  exact ⟨_, pe_callB hc hg hm hv g1.pa hn hdb he hpl, opCore pr g2⟩
theorem ev_ty {n : String} {r : List V → Hp → VK → Prop} {f : List O → Option O} (hc : CallR X (.type n) r) (pr : PR X r f) (hm : X.mg x = none) (hv : bootBuiltins x = some (.type n)) (h : EvAs X W pu (e :: es) ms) (hg : Gl X x := by rfl)
    (hn : x ≠ "__name__" := by decide) (hdb : (x == ("__debug__" : Str)) = false := by decide) (he : starEach (e :: es) X.env = (false, eval e X.env) :: starEach es X.env := by rfl) (hpl : (backTo pos (starEach es X.env)).any (·.1) = false := by rfl) : Ev X W pu (.Call (.Name x p) (e :: es) [] pos) (opM f ms) := by
  obtain ⟨ts, g1, g2⟩ := h.ex
  exact ⟨_, pe_callTy hc hg hm hv g1.pa hn hdb he hpl, opCore pr g2⟩
/-- len -/
def lenB : O → Option Nat
  | .d (.str z) => if lenOk z.length = true then some z.length else none
  | .d (.list ds) => some ds.length
  | .d (.tuple ds) => some ds.length
  | .lst os => some os.length
  | .gL ds => some ds.length
  | .gT ds => some ds.length
  | _ => none
def lenF : List O → Option O
  | [a] => match lenB a with | some n => some (.d (.int (n : Nat))) | none => none
  | _ => none
theorem pr_len : PR X (fun xs H Q => ∃ x n, xs = [x] ∧ LenV X.K x H n ∧ Q (.int n) H) lenF := by
  intro xs os H Ex rs ws Q o hl r hf kk
  unfold lenF at hf
  split at hf
  · rename_i a
    obtain ⟨x, rfl⟩ := one hl
    obtain ⟨Hf, s, hw, cl⟩ := r.fr
    obtain ⟨_, h1⟩ := hw _ zipHead
    simp only at h1
    split at hf
    · rename_i n hn
      cases hf
      have fin := kk (.int n) _ (Same.refl _) (r.data fun _ => .int _)
      refine ⟨x, n, rfl, ?_, fin⟩
      unfold lenB at hn
      split at hn
      · rename_i z
        split at hn
        · rename_i hz
          cases hn
          obtain rfl := owS h1
          exact ⟨lenOk_le hz, rfl⟩
        · cases hn
      · cases hn
        cases h1 with
        | d h1 => cases h1 with | lst q t => exact .inl ⟨_, SqL.of (s _ _ q), (dpLen t).symm⟩
      · cases hn
        cases h1 with
        | d h1 =>
          obtain ⟨a, vs, e, q, t⟩ := dpTup h1
          cases e
          exact .inr ⟨_, sameT s.same q, (dpLen t).symm⟩
      · cases hn
        cases h1 with
        | lst q t => exact .inl ⟨_, SqL.of q, (owLLen t).symm⟩
      · cases hn
        cases h1 with
        | gL q t => exact .inl ⟨_, s.seq q, (dpLen t).symm⟩
      · cases hn
        cases h1 with
        | gT q t => exact .inr ⟨_, sameT s.same q, (dpLen t).symm⟩
      · cases hn
    · cases hf
  · cases hf
/-- min, max of two ints -/
def max2F : List O → Option O := i2F (fun _ _ => true) fun i j => .int (if j > i then j else i)
def min2F : List O → Option O := i2F (fun _ _ => true) fun i j => .int (if j < i then j else i)
theorem pr_fun2 {gv : Int → Int → V} {f : Int → Int → PyData} (hd : ∀ i j Hf, Dp X.K Hf (gv i j) (f i j)) : PR X (fun xs H Q => ∃ i j, xs = [.int i, .int j] ∧ Q (gv i j) H) (i2F (fun _ _ => true) f) := by
  intro xs os H Ex rs ws Q o hl r hf kk
  unfold i2F at hf
  split at hf
  · rename_i i j
    simp only [if_true] at hf
    cases hf
    obtain ⟨x, y, rfl⟩ := two hl
    obtain ⟨Hf, s, hw, cl⟩ := r.fr
    obtain ⟨_, h1⟩ := hw _ zipHead
    obtain ⟨_, h2⟩ := hw _ zipSnd
    obtain rfl := owI h1
    obtain rfl := owI h2
    exact ⟨i, j, rfl, kk _ _ (Same.refl _) (r.data (hd i j))⟩
  · cases hf
theorem pr_max2 : PR X (fun xs H Q => ∃ i j, xs = [.int i, .int j] ∧ Q (.int (if j > i then j else i)) H) max2F := pr_fun2 fun _ _ _ => .int _
theorem pr_min2 : PR X (fun xs H Q => ∃ i j, xs = [.int i, .int j] ∧ Q (.int (if j < i then j else i)) H) min2F := pr_fun2 fun _ _ _ => .int _
/-- sum of ints, all, any -/
def intsOf : List PyData → Option (List Int)
  | [] => some []
  | .int i :: r => match intsOf r with | some l => some (i :: l) | none => none
  | _ => none
def blsOf : List PyData → Option (List Bool)
  | [] => some []
  | .bool i :: r => match blsOf r with | some l => some (i :: l) | none => none
  | _ => none
def strsOf : List PyData → Option (List Str)
  | [] => some []
  | .str i :: r => match strsOf r with | some l => some (i :: l) | none => none
  | _ => none
theorem intsOf_ok {K : PySem.W.Frag} {Hf : Hp} : ∀ {ds : List PyData} {ns : List Int} {vs : List V}, intsOf ds = some ns → DpAll K Hf vs ds → vs = ns.map V.int
  | [], ns, _, h, .nil => by simp only [intsOf, Option.some.injEq] at h; subst h; rfl
  | d :: r, ns, _, h, .cons a t => by
    cases d with
    | int i =>
      simp only [intsOf] at h
      cases q : intsOf r with
      | none => rw [q] at h; cases h
      | some l => rw [q] at h; cases h; cases a; rw [intsOf_ok q t]; rfl
    | _ => simp [intsOf] at h
theorem blsOf_ok {K : PySem.W.Frag} {Hf : Hp} : ∀ {ds : List PyData} {ns : List Bool} {vs : List V}, blsOf ds = some ns → DpAll K Hf vs ds → vs = ns.map V.bl
  | [], ns, _, h, .nil => by simp only [blsOf, Option.some.injEq] at h; subst h; rfl
  | d :: r, ns, _, h, .cons a t => by
    cases d with
    | bool i =>
      simp only [blsOf] at h
      cases q : blsOf r with
      | none => rw [q] at h; cases h
      | some l => rw [q] at h; cases h; cases a; rw [blsOf_ok q t]; rfl
    | _ => simp [blsOf] at h
theorem strsOf_ok {K : PySem.W.Frag} {Hf : Hp} : ∀ {ds : List PyData} {ns : List Str} {vs : List V}, strsOf ds = some ns → DpAll K Hf vs ds → vs = ns.map V.str
  | [], ns, _, h, .nil => by simp only [strsOf, Option.some.injEq] at h; subst h; rfl
  | d :: r, ns, _, h, .cons a t => by
    cases d with
    | str i =>
      simp only [strsOf] at h
      cases q : strsOf r with
      | none => rw [q] at h; cases h
      | some l => rw [q] at h; cases h; cases a; rw [strsOf_ok q t]; rfl
    | _ => simp [strsOf] at h
def sumF : List O → Option O
  | [a] => match (match asL a with | some ds => intsOf ds | none => none) with | some ns => some (.d (.int ns.sum)) | none => none
  | _ => none
def allF : List O → Option O
  | [a] => match (match asL a with | some ds => blsOf ds | none => none) with | some ns => some (.d (.bool (ns.all id))) | none => none
  | _ => none
def anyF : List O → Option O
  | [a] => match (match asL a with | some ds => blsOf ds | none => none) with | some ns => some (.d (.bool (ns.any id))) | none => none
  | _ => none
theorem pr_all : PR X (rAll X.K) allF := by
  intro xs os H Ex rs ws Q o hl r hf kk
  unfold allF at hf
  split at hf
  · obtain ⟨x, rfl⟩ := one hl
    obtain ⟨Hf, s, hw, cl⟩ := r.fr
    obtain ⟨_, h1⟩ := hw _ zipHead
    split at hf
    · rename_i ns e0
      cases hf
      split at e0
      · rename_i ds e1
        obtain ⟨ad, vs, e3, sq, pp⟩ := owL s h1 e1
        simp only at e3
        subst e3
        obtain rfl := blsOf_ok e0 pp
        exact ⟨ad, ns, rfl, sq, kk _ _ (Same.refl _) (r.data fun _ => .bl _)⟩
      · cases e0
    · cases hf
  · cases hf
/-- int of an int, of a truth -/
def intF : List O → Option O
  | [.d (.int i)] => some (.d (.int i))
  | [.d (.bool k)] => some (.d (.int (if k then 1 else 0)))
  | _ => none
theorem pr_int : PR X (fun xs H Q => (∃ i, xs = [.int i] ∧ Q (.int i) H) ∨ ∃ k, xs = [.bl k] ∧ Q (.int (if k then 1 else 0)) H) intF := by
  intro xs os H Ex rs ws Q o hl r hf kk
  unfold intF at hf
  split at hf
  · rename_i i
    cases hf
    obtain ⟨x, rfl⟩ := one hl
    obtain ⟨Hf, s, hw, cl⟩ := r.fr
    obtain ⟨_, h1⟩ := hw _ zipHead
    obtain rfl := owI h1
    exact .inl ⟨i, rfl, kk _ _ (Same.refl _) (r.data fun _ => .int _)⟩
  · rename_i i
    cases hf
    obtain ⟨x, rfl⟩ := one hl
    obtain ⟨Hf, s, hw, cl⟩ := r.fr
    obtain ⟨_, h1⟩ := hw _ zipHead
    obtain rfl := owB h1
    exact .inr ⟨i, rfl, kk _ _ (Same.refl _) (r.data fun _ => .int _)⟩
  · cases hf
/-- tuple(..), list(..) of data in a row -/
def tupF : List O → Option O
  | [a] => match asL a with
    | some ds => some (.d (.tuple ds))
    | none => match asT a with | some ds => some (.d (.tuple ds)) | none => none
  | _ => none
def lstF : List O → Option O
  | [a] => match asLT a with | some ds => some (.lst (ds.map O.d)) | none => none
  | _ => none
theorem pr_tup : PR X (fun xs H Q => ∃ p ys, xs = [.ref p] ∧ ((SqL X.K H p ys ∧ TupP H ys Q) ∨ (SqT X.K H p ys ∧ Q (.ref p) H))) tupF := by
  intro xs os H Ex rs ws Q o hl r hf kk
  unfold tupF at hf
  split at hf
  · obtain ⟨x, rfl⟩ := one hl
    obtain ⟨Hf, s, hw, cl⟩ := r.fr
    obtain ⟨_, h1⟩ := hw _ zipHead
    split at hf
    · rename_i ds e1
      cases hf
      obtain ⟨ad, vs, e3, sq, pp⟩ := owL s h1 e1
      simp only at e3
      subst e3
      exact ⟨ad, vs, rfl, .inl ⟨sq, (cl _ _ pp).mkTupl (dpLen pp) fun v H' s' r' => kk v H' s' r'⟩⟩
    · split at hf
      · rename_i ds e1
        cases hf
        have hD := owTD h1 e1
        obtain ⟨ad, vs, e3, sq, pp⟩ := owT s h1 e1
        simp only at e3
        subst e3
        exact ⟨ad, vs, rfl, .inr ⟨sq, kk _ _ (Same.refl _) (cl [_] [_] (.cons hD .nil))⟩⟩
      · cases hf
  · cases hf
def tyN : O → String
  | .d .none => "NoneType"
  | .d (.bool _) => "bool"
  | .d (.int _) => "int"
  | .d (.str _) => "str"
  | .d (.list _) => "list"
  | .d (.tuple _) => "tuple"
  | .lst _ => "list"
  | .dK _ => "dict"
  | .dT _ => "dict"
  | _ => ""
def isiM (n : String) (m : M O) : M O := M.bd m fun o g => if tyN o = "" then .bad else match kitB (tyN o) n with
  | some k => .ok (.d (.bool k)) g
  | none => .bad
end
end Z
namespace Z
open PySem PySem.Spec L2
section
variable {X : Cx} {W : WX} {pu pv pw : Bool} {H H' : Hp} {Ex : List (Addr × HO)} {σ σ' : L2.St} {g : Gs} {T T' ws ws' rs : Roots} {e a b o lo hi : Expr} {es : List Expr} {m : M O} {ms : M (List O)} {pos p p2 apos : Pos} {k j np : Nat} {x : Str}
def asS : O → M Str := fun o g => match o with
  | .d (.str b) => .ok b g
  | _ => .bad
theorem wpS {o : O} {g : Gs} {A : Str → Gs → Prop} {B : Exn → Gs → Prop} (h : Wp (asS o g) A B) : ∃ b, o = .d (.str b) ∧ A b g := by
  unfold asS at h
  split at h
  · exact ⟨_, rfl, h⟩
  · exact h.elim
theorem Rel.isS {K : PySem.W.Frag} {mg : Str → Option Value} {v : V} {i : Str} (r : Rel K mg H Ex ((v, .d (.str i)) :: rs) ws) : v = .str i := by
  obtain ⟨Hf, s, h, _⟩ := r.headDp
  cases h; rfl
def joinB (s : Str) (o : O) : Option O := match (match asLT o with | some ds => strsOf ds | none => none) with
  | some ys => if lenOk ((ys.map (·.length)).sum + ys.length * s.length) = true then some (.d (.str (Txt.join s ys))) else none
  | none => none
def joinM (mo ma : M O) : M O := M.bd mo fun o => M.bd (asS o) fun s => M.bd ma fun x => optM (joinB s x)
theorem ev_join {ma : M O} (ho : Ev X W pu o m) (ha : EvP X W pv a ma) (hs : starEach [a] X.env = [(false, eval a X.env)] := by rfl) (hbase : attributeBase o "join" X.env (eval o X.env) = eval o X.env := by rfl) (hline : (apos.endLine == pos.line) = true := by rfl) :
    Ev X W (pu && pv) (.Call (.Attribute o "join" apos) [a] [] pos) (joinM m ma) := by
  obtain ⟨to, o1, o2⟩ := ho.ex
  obtain ⟨ta, a1, a2⟩ := ha.ex
  refine ⟨_, pe_join o1 a1 hs hbase hline, fun σ H Q g T Ex ws a w => ?_⟩
  refine o2 σ H _ g T Ex ws a (w.bd.imp (fun o g1 kk v H1 s1 b1 => ?_) fun _ _ kk => kk)
  obtain ⟨z, rfl, k1⟩ := wpS kk.bd
  obtain rfl := b1.top.isS
  refine ⟨⟨z, rfl⟩, ?_⟩
  refine a2 σ H1 _ g1 _ Ex _ b1.drop (k1.bd.imp (fun ox g2 kk u H2 s2 b2 => ?_) fun x g2 kk H' cls d a2 e => kk H' cls d a2 e)
  obtain ⟨r, hr, k2⟩ := wpOpt kk
  unfold joinB at hr
  split at hr
  · rename_i ys e0
    split at hr
    · rename_i hl
      cases hr
      split at e0
      · rename_i ds e1
        obtain ⟨Hf, sm, hw, cl⟩ := b2.rel.fr
        obtain ⟨_, h1⟩ := hw _ List.mem_cons_self
        obtain ⟨ad, vs, e3, sq, pp⟩ := owLTseq sm h1 e1
        simp only at e3
        subst e3
        obtain rfl := strsOf_ok e0 pp
        refine ⟨z, ad, ys, rfl, rfl, sq, of_decide_eq_true hl, k2 _ H2 (purTr s1 s2) ((b2.data fun _ => .str _).views fun p m => List.mem_cons_of_mem _ (by rw [vsVs]; exact m))⟩
      · cases e0
    · cases hr
  · cases hr
def upM (mo : M O) : M O := M.bd mo fun o => M.bd (asS o) fun s => gdM (decide (s.length ≤ 5592405)) (M.ret (.d (.str (Txt.upper s))))
def appM (i : Nat) (m : M O) : M O := M.bd m fun o g => match g[i]? with
  | some (some (.lst os)) => if os.length < 16777216 then .ok (.d .none) (g.set i (some (.lst (os ++ [o])))) else .bad
  | _ => .bad
def appLM (i : Nat) (m : M O) : M O := fun g => match g[i]? with
  | some (some (.lst _)) => appM i m g
  | _ => .bad
theorem At.appendAt {i : Nat} {os : List O} {o : O} {v y : V} (a : At X H Ex σ g ((y, o) :: T) ws) (hg : g[i]? = some (some (.lst os))) (hv : σ[i]? = some (some v)) : ∃ ad vs, v = .ref ad ∧ H ad = some (.lst vs) ∧ vs.length = os.length ∧
    At X (upd H ad (.lst (vs ++ [y]))) Ex σ (g.set i (some (.lst (os ++ [o])))) T [] := by
  have r := (a.get hg hv).noviews
  obtain ⟨ad, ho, vs, os1, e1, e2, p, hl, r2⟩ := r.opn rfl
  cases p
  refine ⟨ad, vs, e1, e2, hl, ?_⟩
  subst e1
  refine .put a.fit hv (((r2.write (.lst (vs ++ [y]))).perm ?_).shut (.lst (os := os ++ [o])) (by simp [hl]))
  rw [List.zip_append hl]
  simp only [List.zip_cons_cons, List.zip_nil_right, List.append_assoc, List.cons_append, List.nil_append]
  refine List.Perm.append_left _ ?_
  exact List.perm_middle
theorem permErase {α : Type} : ∀ {l : List α} {j : Nat} (h : j < l.length), (l[j] :: l.eraseIdx j).Perm l
  | a :: l, 0, _ => .refl _
  | a :: l, j + 1, h => by
    simp only [List.getElem_cons_succ, List.eraseIdx_cons_succ]
    exact (List.Perm.swap _ _ _).trans (.cons _ (permErase (l := l) (j := j) (by simpa using h)))
theorem permSet {α : Type} (x : α) : ∀ {l : List α} {j : Nat} (h : j < l.length), (l.set j x).Perm (x :: l.eraseIdx j)
  | a :: l, 0, _ => .refl _
  | a :: l, j + 1, h => by
    simp only [List.set_cons_succ, List.eraseIdx_cons_succ]
    exact (List.Perm.cons _ (permSet x (l := l) (j := j) (by simpa using h))).trans (.swap _ _ _)
theorem zipSet : ∀ {vs : List V} {os : List O} {j : Nat} {y : V} {o : O}, (vs.set j y).zip (os.set j o) = (vs.zip os).set j (y, o)
  | [], _, _, _, _ => by simp
  | _ :: _, [], j, _, _ => by cases j <;> simp
  | v :: vs, q :: os, 0, _, _ => by simp
  | v :: vs, q :: os, j + 1, y, o => by simp [zipSet (vs := vs) (os := os) (j := j) (y := y) (o := o)]
theorem At.setIx {i j : Nat} {os : List O} {o : O} {v y : V} (a : At X H Ex σ g ((y, o) :: T) ws) (hg : g[i]? = some (some (.lst os))) (hv : σ[i]? = some (some v)) (hj : j < os.length) : ∃ ad vs, v = .ref ad ∧ H ad = some (.lst vs) ∧ vs.length = os.length ∧
    At X (upd H ad (.lst (vs.set j y))) Ex σ (g.set i (some (.lst (os.set j o)))) T [] := by
  have r := (a.get hg hv).noviews
  obtain ⟨ad, ho, vs, os1, e1, e2, p, hl, r2⟩ := r.opn rfl
  cases p
  refine ⟨ad, vs, e1, e2, hl, ?_⟩
  subst e1
  refine .put a.fit hv (Rel.shut (vs := vs.set j y) (os := os.set j o) ?_ (.lst (os := os.set j o)) (by simp [hl]))
  have hjz : j < (vs.zip os).length := by rw [List.length_zip]; omega
  have p1 : (vs.zip os).Perm ((vs.zip os)[j] :: (vs.zip os).eraseIdx j) := (permErase hjz).symm
  have p2 : ((vs.zip os).set j (y, o)).Perm ((y, o) :: (vs.zip os).eraseIdx j) := permSet _ hjz
  rw [zipSet]
  have r3 := (r2.perm (p1.append_right _)).drop
  refine (r3.write (.lst (vs.set j y))).perm ?_
  refine List.Perm.trans ?_ (p2.symm.append_right _)
  refine ((List.perm_middle.append_left _).trans List.perm_middle)
theorem ev_app (i : Nat) {xn : Str} {ap pp : Pos} (h : Ev X W pu a m) (hN : X.N[i]? = some xn := by rfl) (hv : Vis X.env.scope xn := by first | exact Or.inl rfl | exact Or.inr (Or.inl rfl) | exact Or.inr (Or.inr rfl)) (hdd1 : (xn == ("__debug__" : Str)) = false := by decide) (hcd : (xn == ("__classdict__" : Str)) = false := by decide)
    (hbase : attributeBase (.Name xn pp) "append" X.env (eval (.Name xn pp) X.env) = eval (.Name xn pp) X.env := by rfl)
    (hfew : ((backTo pos (starEach [a] X.env)).all (fun x => !x.1) && (backToKw pos (keywordEach [] X.env)).all (fun x => x.1.isSome)
      && decide ([a].length + ([] : List Keyword).length + (if ([] : List Keyword).isEmpty then 0 else 1) < 30)) = true := by rfl)
    (hline : (ap.endLine == pos.line) = true := by rfl) (hst : starEach [a] X.env = (false, eval a X.env) :: starEach [] X.env := by rfl) (hplain : (backTo pos (starEach [] X.env)).any (·.1) = false := by rfl) :
    Ev X W false (.Call (.Attribute (.Name xn pp) "append" ap) [a] [] pos) (appLM i m) := by
  obtain ⟨t, h1, h2⟩ := h.ex
  refine ⟨_, pe_bm PySem.F.plainAttrs_list PySem.F.slot_list_append PySem.F.type_list_append mt_append (pv i hN hv hdd1 hcd) (pa_cons h1 pa_nil hst) hbase hfew hline hst hplain, fun σ H Q g T Ex ws at0 w => ?_⟩
  unfold appLM at w
  split at w
  · rename_i os0 hg0
    obtain ⟨v, hv⟩ := at0.fit.at_ _ _ hg0
    have r0 := (at0.get hg0 hv).noviews
    obtain ⟨ad0, ho0, vs0, os1, e1, e2, p, hl, r2⟩ := r0.opn rfl
    cases p
    subst e1
    refine ⟨_, hv, .inl ⟨rfl, _, SqL.of e2⟩, ?_⟩
    refine h2 σ H _ g T Ex ws at0 (w.bd.imp (fun o g' kk y H' s a' => ?_) fun _ _ kk => kk)
    split at kk
    · rename_i os hg
      split at kk
      · rename_i hlen
        obtain ⟨ad, vs, e3, e4, hl', a3⟩ := a'.appendAt hg hv
        cases e3
        refine ⟨ad0, vs, y, rfl, rfl, e4, by rw [hl', sizeLine_eq]; exact hlen, ?_⟩
        exact kk _ _ (fun z => by cases z) (a3.data fun _ => .non)
      · exact kk.elim
    · exact kk.elim
  · exact w.elim
def ixSet1 (i : Nat) (mi : M O) (o : O) : M Unit := M.bd mi fun oi => M.bd (asI oi) fun k g => match g[i]? with
  | some (some (.lst os)) => match ixN os.length k with
    | some j => .ok () (g.set i (some (.lst (os.set j o))))
    | none => .bad
  | _ => .bad
def ixSetM (i : Nat) (mi : M O) (o : O) : M Unit := fun g => match g[i]? with
  | some (some _) => ixSet1 i mi o g
  | _ => .bad
theorem ixNlt {n : Nat} {i : Int} {j : Nat} (h : ixN n i = some j) : j < n := (ixN_seq h).2.1
theorem eg_ix (i : Nat) {xn : Str} {pp : Pos} (h : Ev X W pu b m) (hN : X.N[i]? = some xn := by rfl) (hv : Vis X.env.scope xn := by first | exact Or.inl rfl | exact Or.inr (Or.inl rfl) | exact Or.inr (Or.inr rfl)) (hdd1 : (xn == ("__debug__" : Str)) = false := by decide) (hcd : (xn == ("__classdict__" : Str)) = false := by decide)
    (ha : ∀ v, assign (.Subscript (.Name xn pp) b pos) X.env v = (do
      let ov ← holding [v] (eval (.Name xn pp) X.env)
      let iv ← holding [v, ov] (eval b X.env)
      standAt pos
      holding [v, ov, iv] (setItem ov iv v)
      release [v, ov, iv] []) := by intro _; rfl) : EvG X W np (.Subscript (.Name xn pp) b pos) (ixSetM i m) := by
  obtain ⟨t, h1, h2⟩ := h.ex
  refine ⟨_, pg_sub (pv i hN hv hdd1 hcd) h1 set_list ha, fun σ H Q g T Ex v o at0 w => ?_⟩
  unfold ixSetM at w
  split at w
  · rename_i o0 hg0
    obtain ⟨u, hu⟩ := at0.fit.at_ _ _ hg0
    refine ⟨u, hu, ?_⟩
    refine h2 σ H _ g _ Ex [] at0 (w.bd.imp (fun oi g' kk y H' s a' => ?_) fun x g' kk H' cls d a2 e => kk σ H' cls d .refl a2.drop e)
    obtain ⟨ki, rfl, k2⟩ := wpI kk.bd
    obtain rfl := a'.top.isI
    split at k2
    · rename_i os hg
      split at k2
      · rename_i jj hj
        obtain ⟨ad, vs, e3, e4, hl', a3⟩ := a'.drop.setIx hg hu (ixNlt hj)
        subst e3
        exact ⟨ad, vs, ki, jj, rfl, rfl, e4, by rw [hl']; exact hj, k2 σ _ .refl a3⟩
      · exact k2.elim
    · exact k2.elim
  · exact w.elim
end
end Z
namespace Z
open PySem PySem.Spec L2
theorem boot_len_ : bootBuiltins "len" = some (.builtin "len") := by decide +kernel
theorem boot_all_ : bootBuiltins "all" = some (.builtin "all") := by decide +kernel
theorem boot_max_ : bootBuiltins "max" = some (.builtin "max") := by decide +kernel
theorem boot_min_ : bootBuiltins "min" = some (.builtin "min") := by decide +kernel
theorem boot_isi_ : bootBuiltins "isinstance" = some (.builtin "isinstance") := by decide +kernel
theorem boot_int_ : bootBuiltins "int" = some (.type "int") := by decide +kernel
theorem boot_tuple_ : bootBuiltins "tuple" = some (.type "tuple") := by decide +kernel
theorem cg_nil : ∀ (ds : List PyData) (g : Gs), ds.length ≠ 0 → nilG ds g = .bad
  | [], _, h => (h rfl).elim
  | _ :: _, _, _ => rfl
theorem cg_cons {i n : Nat} {f : List PyData → M Unit} (h : ∀ (ds : List PyData) (g : Gs), ds.length ≠ n → f ds g = .bad) : ∀ (ds : List PyData) (g : Gs), ds.length ≠ n + 1 → consG i f ds g = .bad := by
  intro ds g hn
  cases ds with
  | nil => rfl
  | cons d r =>
    have e : ∀ g, f r g = .bad := fun g => h r g (by simpa using hn)
    simp only [consG, M.bd, setM]
    first | exact e _ | (repeat' split; all_goals simp_all)
/-- a def that is not looked into: of it nothing is said -/
theorem fnBad {P : Program} {w : World} {K : PySem.W.Frag} {mg : Str → Option Value} {base : Heap} {k : Nat} {a : Addr} {fd : FuncData} {ps : List Str} {np : Nat} (hl : ps.length = np) : FnG P w K mg base (L2.CX P w) k a fd ps (spF K mg np fun _ => .bad) :=
  ⟨fun vs H Q E h => h.1.trans hl.symm, fun A outer s H args us vs Q E _ _ _ _ h => by
    obtain ⟨_, os, Ex, T, _, _, f⟩ := h
    exact f.elim⟩
end Z
namespace Z
open PySem PySem.Spec L2
/-- a def of the module as it stands behind the top -/
structure DefAt (K : PySem.W.Frag) (mg : Str → Option Value) (x : Str) (st : Stmt) : Prop where
  ex : ∃ (a : Addr) (fd : FuncData), mg x = some (.ref a) ∧ Fun K x x st a fd
theorem defAt {K : PySem.W.Frag} {mg : Str → Option Value} {h : Heap} {x : Str} {st : Stmt} {f : Addr} {oc : Value} {od an : Option Addr} {osl : Array (Option Value)} {kV doc pm cdv ct : Value} (X : K.In h) (G : h.Ns mainGlobals mg)
    (a : PySem.W.nsIn K mainGlobals x = some (some (.ref f))) (l : K.lookup f = some ⟨oc, od, .func (PySem.W.fnOf x x (defArgs st) (defBody st) (defScope st) .none kV doc pm an cdv ct), osl⟩) (c : PySem.W.codeIn K cdv x = true) (k : PySem.W.keepIn K (.ref f) = true) : DefAt K mg x st :=
  ⟨_, _, PySem.W.mg_of X G a, fun_mk l c k⟩
theorem gl_str {K : PySem.W.Frag} {mg : Str → Option Value} {h : Heap} {x s : Str} {t : Tok} (X : K.In h) (G : h.Ns mainGlobals mg) (a : PySem.W.nsIn K mainGlobals x = some (some (.str s t))) (hdb : (x == ("__debug__" : Str)) = false := by decide) :
    ∀ (X : Cx) (W : WX) (pos : Pos), X.K = K → X.mg = mg → Gl X x → Ev X W true (.Name x pos) (dM (.str s)) := by
  intro X W pos e1 e2 hg
  exact ev_glob hg (v := .str s) (by rw [e2]; exact PySem.W.mg_of ‹K.In h› G a) ⟨t, rfl⟩ (fun _ => .str s) hdb
theorem gl_int {K : PySem.W.Frag} {mg : Str → Option Value} {h : Heap} {x : Str} {i : Int} {t : Tok} (X : K.In h) (G : h.Ns mainGlobals mg) (a : PySem.W.nsIn K mainGlobals x = some (some (.int i t))) (hdb : (x == ("__debug__" : Str)) = false := by decide) :
    ∀ (X : Cx) (W : WX) (pos : Pos), X.K = K → X.mg = mg → Gl X x → Ev X W true (.Name x pos) (dM (.int i)) := by
  intro X W pos e1 e2 hg
  exact ev_glob hg (v := .int i) (by rw [e2]; exact PySem.W.mg_of ‹K.In h› G a) ⟨t, rfl⟩ (fun _ => .int i) hdb
def flat1 : Value → Option (V × PyData)
  | .none => some (.non, .none)
  | .bool b => some (.bl b, .bool b)
  | .int i _ => some (.int i, .int i)
  | .str s _ => some (.str s, .str s)
  | _ => none
def flatAll : List Value → Option (List PyData)
  | [] => some []
  | u :: r => match flat1 u, flatAll r with
    | some p, some ds => some (p.2 :: ds)
    | _, _ => none
theorem flat1_ok {K : PySem.W.Frag} {u : Value} {p : V × PyData} (h : flat1 u = some p) : RelV p.1 u ∧ ∀ H, Dp K H p.1 p.2 := by
  cases u <;> simp only [flat1, Option.some.injEq] at h
  all_goals first
    | (cases h; done)
    | (subst h; exact ⟨rfl, fun _ => .non⟩)
    | (subst h; exact ⟨rfl, fun _ => .bl _⟩)
    | (subst h; exact ⟨⟨_, rfl⟩, fun _ => .int _⟩)
    | (subst h; exact ⟨⟨_, rfl⟩, fun _ => .str _⟩)
theorem flatAll_ok {K : PySem.W.Frag} : ∀ {us : List Value} {ds : List PyData}, flatAll us = some ds → ∃ xs, Vals xs us ∧ ∀ H, DpAll K H xs ds
  | [], ds, h => by
    simp only [flatAll, Option.some.injEq] at h
    subst h
    exact ⟨[], .nil, fun _ => .nil⟩
  | u :: r, ds, h => by
    simp only [flatAll] at h
    split at h
    · rename_i p ds' e1 e2
      cases h
      obtain ⟨xs, v, d⟩ := flatAll_ok (K := K) e2
      obtain ⟨r1, d1⟩ := flat1_ok (K := K) e1
      exact ⟨p.1 :: xs, .cons r1 v, fun H => .cons (d1 H) (d H)⟩
    · cases h
theorem ev_globT {X : Cx} {W : WX} {pos : Pos} {x : Str} {a : Addr} {xs : List V} {ds : List PyData} (hg : Gl X x) (hm : X.mg x = some (.ref a)) (hs : ∀ Hf, SqT X.K Hf a xs) (hd : ∀ Hf, DpAll X.K Hf xs ds) (hdb : (x == ("__debug__" : Str)) = false := by decide) : Ev X W true (.Name x pos) (M.ret (.gT ds)) :=
  ⟨_, pe_glob hg hm (v := .ref a) rfl hdb, fun σ H Q g T Ex ws a w => w _ H (fun _ => ⟨rfl, Same.refl _⟩) (by
    refine .ofTop a.fit ?_
    obtain ⟨Hf, as, s, h1, h2, h3, h4, h5⟩ := a.rel.ex
    exact ⟨Hf, as, s, h1, .cons (.gT (hs Hf.h) (hd Hf.h)) h2, h3, h4, h5⟩)⟩
theorem gl_tup {K : PySem.W.Frag} {mg : Str → Option Value} {h : Heap} {x : Str} {f : Addr} {od : Option Addr} {its : Array Value} {n : Nat} {osl : Array (Option Value)} {ds : List PyData} (X : K.In h) (G : h.Ns mainGlobals mg)
    (a : PySem.W.nsIn K mainGlobals x = some (some (.ref f))) (l : K.lookup f = some ⟨.type "tuple", od, .seq its n, osl⟩) (hz : its.size ≤ sizeLine) (e : flatAll its.toList = some ds) (hdb : (x == ("__debug__" : Str)) = false := by decide) :
    ∀ (X : Cx) (W : WX) (pos : Pos), X.K = K → X.mg = mg → Gl X x → Ev X W true (.Name x pos) (M.ret (.gT ds)) := by
  intro Y W pos e1 e2 hg
  subst e1
  obtain ⟨xs, v, d⟩ := flatAll_ok (K := Y.K) e
  exact ev_globT hg (by rw [e2]; exact PySem.W.mg_of X G a) (fun Hf => .inr ⟨_, its, n, l, rfl, rfl, hz, v⟩) d hdb
def trueF (f : Fn) (ns : List Int) : Prop := FW (f [.gL (ns.map PyData.int)]) (fun r ps => r = .d (.bool true) ∧ ps.length = 1) (fun _ => False)
def spLaw (K : PySem.W.Frag) (f : Fn) : Sp := fun vs H Q E => ∃ (a : Addr) (ns : List Int), vs = [.ref a] ∧ SqL K H a (ns.map V.int) ∧ trueF f ns ∧ ∀ H', Q (.bl true) H'
theorem dpInts {K : PySem.W.Frag} {H : Hp} : ∀ (ns : List Int), DpAll K H (ns.map V.int) (ns.map PyData.int)
  | [] => .nil
  | n :: r => .cons (.int n) (dpInts r)
theorem lawSp {P : Program} {w : World} {K : PySem.W.Frag} {mg : Str → Option Value} {base : Heap} {k : Nat} {a : Addr} {fd : FuncData} {x : Str} {f : Fn} (F : FnG P w K mg base (L2.CX P w) k a fd [x] (spF K mg 1 f)) :
    FnG P w K mg base (L2.CX P w) k a fd [x] (spLaw K f) := by
  refine F.imp fun vs H Q E h => ?_
  obtain ⟨b, ns, rfl, hS, e, hQ⟩ := h
  refine ⟨rfl, [.gL (ns.map PyData.int)], [], [], rfl, ⟨⟨H, fun _ => none⟩, [], ⟨Same.refl _, by simp⟩, by simp, ?_, by simp, by simp, by simp⟩, ?_⟩
  · exact .cons (as := []) (bs := []) (.gL hS (dpInts ns)) .nil
  · refine FW.imp e (fun r ps z => ?_) (fun x z => z.elim)
    obtain ⟨rfl, hl⟩ := z
    refine ⟨hl, fun v H' r => ?_⟩
    obtain ⟨Hf, s, d, _⟩ := r.headDp
    cases d
    exact hQ H'
open PyProof.Rows in
/-- the law's call where no repr is under way -/
theorem lawG {P : Program} {w : World} {K : PySem.W.Frag} {mg mb : Str → Option Value} {CX : CXT} {k : Nat} {fa a : Addr} {fd : FuncData} {x : Str} {sp : Sp} {s₁ : Shared} {vs : List Value} {ns : List Int}
    (KX : K.In s₁.heap) (g1 : s₁.heap.Ns mainGlobals mg) (g2 : s₁.heap.Ns builtinsNs mb) (g3 : ∀ x : Str, x ≠ "__name__" → mb x = bootBuiltins x) (g4 : s₁.heap.NoLimit) (g5 : s₁.gens = #[])
    (ha : s₁.heap.get? a = some { cls := .type "list", data := .seq vs.toArray }) (hi : IntsAre vs ns) (hl : ns.length ≤ sizeLine) (hr : RoomG k callerA)
    (F : ∀ base : Heap, K.In base → base.Ns mainGlobals mg → FnG P w K mg base CX k fa fd [x] sp) (hb : ∀ (s : Shared) (u : Value), BindsTo s fd ⟨[u], []⟩ [(x, u)])
    (hsp : ∀ H : Hp, Only H → SqL K H a (ns.map V.int) → sp [.ref a] H (fun v _ => v = .bl true) fun _ _ _ => False) (hX : ∀ H e s', CX [] H s₁ (fun _ _ _ => False) e s' → False) :
    codeAny (model P w) callerA (.call (.ref fa) ⟨[.ref a], []⟩) (fun r s' => r = .ok (.ret (.bool true)) ∧ OldK s₁.heap s'.heap ∧ s'.os = s₁.os ∧ AllBare s'.gens) s₁ := by
  have rv := vals_ints hi
  -- H tracks nothing, or the script alone
  have by_ : ∀ H : Hp, Only H → SqL K H a (ns.map V.int) → HOk P w H s₁.heap → (∀ b, b ≠ a → H b = none) → (K.lookup a = none ∨ H a = none) →
      codeAny (model P w) callerA (.call (.ref fa) ⟨[.ref a], []⟩) (fun r s' => r = .ok (.ret (.bool true)) ∧ OldK s₁.heap s'.heap ∧ s'.os = s₁.os ∧ AllBare s'.gens) s₁ := by
    intro H hO hS hok hA hK
    have keep : ∀ {b : Addr} {o : Obj}, s₁.heap.get? b = some o → (b = a → H a = none) → (hidT s₁.heap H).get? b = some o := fun {b o} e n => hidT_get e (by
      by_cases z : b = a
      · rw [z]; exact n z
      · exact hA b z)
    have nsK : ∀ {b : Addr} {m : Str → Option Value}, s₁.heap.Ns b m → (hidT s₁.heap H).Ns b m := by
      intro b m h
      obtain ⟨o, es, ep, e, d, r⟩ := h
      refine ⟨o, es, ep, keep e fun z => ?_, d, r⟩
      rw [z, ha] at e
      cases e
      cases d
    have kin : K.In (hidT s₁.heap H) := fun b o e => keep (KX b o e) fun z => by
      rcases hK with hK | hK
      · rw [z, hK] at e; cases e
      · exact hK
    have md : Mod K mg (hidT s₁.heap H) := by
      obtain ⟨mc, h1, h2⟩ := g4
      exact ⟨kin, nsK g1, ⟨mb, nsK g2, g3⟩, mc, nsK h1, h2⟩
    have e0 : Env0 P w K mg (hidT s₁.heap H) callerA [] s₁ H := ⟨rfl, md, fun b o e => of_hidT e, Nat.le_of_eq (hidT_size _ _), trivial, (fun b hb => by cases hb), hok, .of_eq g5⟩
    have run := (F _ kin (nsK g1)).run callerA [] s₁ H ⟨[.ref a], []⟩ [.ref a] [.ref a] _ _ hr e0 (hb s₁ (.ref a)) (.cons rfl .nil) (hsp H hO hS)
    refine codeAny_mono run fun r s' h => ?_
    match r, h with
    | .error e, h => exact (hX H e s' h).elim
    | .ok .next, h => exact False.elim h
    | .ok .brk, h => exact False.elim h
    | .ok .cont, h => exact False.elim h
    | .ok (.ret u), h =>
      obtain ⟨v, H', os, bare, un, hok', r1, q⟩ := h
      have q : v = .bl true := q
      subst q
      obtain rfl : u = Value.bool true := r1
      refine ⟨rfl, OldK.of_keep fun b o e => ?_, os, bare⟩
      rcases hO b with z | ⟨ob, xs, z⟩
      · exact un.keep b o e z (fun m => by cases m) (fun m => by cases m)
      · obtain ⟨e1, _⟩ := hok b _ z
        obtain ⟨e2, _⟩ := hok' b _ (un.frzs b ob _ z)
        rw [e] at e1
        cases e1
        exact e2
  have hz : vs.toArray.size ≤ sizeLine := by rw [List.size_toArray, hi.length]; exact hl
  by_cases hk : K.lookup a = none
  · have at_ : ∀ {b : Addr} {u : HO}, (if b = a then some (HO.frz { cls := .type "list", data := .seq vs.toArray } (.lst (ns.map V.int))) else none) = some u → b = a ∧ u = .frz { cls := .type "list", data := .seq vs.toArray } (.lst (ns.map V.int)) := by
      intro b u z
      by_cases e : b = a
      · rw [if_pos e] at z; cases z; exact ⟨e, rfl⟩
      · rw [if_neg e] at z; cases z
    refine by_ (fun b => if b = a then some (.frz { cls := .type "list", data := .seq vs.toArray } (.lst (ns.map V.int))) else none) (fun b => ?_) (.inl (.inr ⟨{ cls := .type "list", data := .seq vs.toArray }, if_pos rfl⟩)) (fun b u z => ?_) (fun b e => if_neg e) (.inl hk)
    · by_cases e : b = a
      · exact .inr ⟨_, _, if_pos e⟩
      · exact .inl (if_neg e)
    · obtain ⟨e1, e2⟩ := at_ z
      subst e1
      subst e2
      exact ⟨ha, by rw [List.length_map]; exact hl, vs, _, rv, ha⟩
  · obtain ⟨o, ho⟩ := Option.ne_none_iff_exists'.mp hk
    have e := KX a o ho
    rw [ha] at e
    cases e
    exact by_ (fun _ => none) (fun _ => .inl rfl) (.inr ⟨_, vs.toArray, _, ho, rfl, rfl, rfl, hz, by simpa using rv⟩) (fun b u z => by cases z) (fun b _ => rfl) (.inr rfl)
open PyProof.Rows in
theorem zwalk {l : PySem.W.OpenLaw} {q : Program} {loose : List Str} {XP : (Str → Option Value) → Heap → Prop} {YP : World → Heap → Prop} {d : DefRec} {K : Params → PySem.W.Frag} {f : Fn} {x : Str} (k : Nat) (hn : l.most = some 63) (hdf : d.params.defaults = [])
    (hr : Room k callerA) (hp : ∀ ns : List Int, ns.length ≤ 63 → trueF f ns)
    (hY : ∀ (w : World) (h : Heap), YP w h → (K w.params).In h)
    (F : ∀ (w : World) (mg : Str → Option Value) (fa : Addr) (h : Heap), (K w.params).In h → h.Ns mainGlobals mg → mg d.name = some (.ref fa) →
      ∃ fd : FuncData, (∀ (s : Shared) (u : Value), BindsTo s fd ⟨[u], []⟩ [(x, u)]) ∧ ∀ base : Heap, FnG l.prog w (K w.params) mg base (L2.CX l.prog w) k fa fd [x] (spF (K w.params) mg 1 f)) :
    PySem.W.WalkO q loose XP YP l.row.toRowW d [] (fun f vs => PySem.call f vs) :=
  Att.attach_call hn hdf fun w s₀ s₁ mg mb fa o pm cd doc a vs ns G Y ho hd hcd hmg hobj hints hlen hg => by
    have KX := hY w _ Y
    obtain ⟨fd, b, g⟩ := F w mg fa _ KX G.T.g hmg
    exact lawG (CX := L2.CX l.prog w) (sp := spLaw (K w.params) f) KX G.T.g G.T.b G.T.builtins G.T.nolimit hg hobj hints (Nat.le_trans hlen (by decide)) ⟨hr, rfl⟩ (fun base _ _ => lawSp (g base)) b
      (fun H _ hS => ⟨a, ns, rfl, hS, hp ns hlen, fun _ => rfl⟩) fun H e s' z => by
        obtain ⟨_, _, _, _, _, _, _, _, _, _, _, _, z⟩ := z
        exact z.elim
end Z
namespace Z
open PySem PySem.Spec L2
section
variable {α β : Type} {A : α → Gs → Prop} {C : β → Gs → Prop} {B : Exn → Gs → Prop} {g : Gs}
@[simp] theorem wp_ret {a : α} : Wp (M.ret a g) A B = A a g := rfl
@[simp] theorem wp_no : Wp ((M.no : M α) g) A B = False := rfl
@[simp] theorem wp_ok {a : α} : Wp (.ok a g) A B = A a g := rfl
@[simp] theorem wp_bad : Wp (.bad : Res α) A B = False := rfl
@[simp] theorem wp_bd {m : M α} {f : α → M β} : Wp (M.bd m f g) C B = Wp (m g) (fun a e' => Wp (f a e') C B) B := by
  exact propext Res.wp_bd
@[simp] theorem wp_ite {c : Prop} [Decidable c] {m n : M α} : Wp ((if c then m else n) g) A B = if c then Wp (m g) A B else Wp (n g) A B := by split <;> rfl
@[simp] theorem wp_gd {c : Bool} {m : M α} : Wp (gdM c m g) A B = (c = true ∧ Wp (m g) A B) := by
  unfold gdM
  split
  · simp_all
  · simp_all [Wp]
end
def optW {α : Type} (x : Option α) (A : α → Prop) : Prop := match x with
  | some o => A o
  | none => False
@[simp] theorem optW_some {α : Type} {o : α} {A : α → Prop} : optW (some o) A = A o := rfl
@[simp] theorem optW_none {α : Type} {A : α → Prop} : optW (none : Option α) A = False := rfl
@[simp] theorem optW_ite {α : Type} {c : Prop} [Decidable c] {x : Option α} {A : α → Prop} : optW (if c then x else none) A = (c ∧ optW x A) := by
  split <;> simp_all
section
variable {A : O → Gs → Prop} {AB : Bool → Gs → Prop} {AF : Fl → Gs → Prop} {AL : List O → Gs → Prop} {AU : Unit → Gs → Prop} {AR : List Arg → Gs → Prop} {AD : List PyData → Gs → Prop} {B : Exn → Gs → Prop} {g : Gs} {m n : M O} {ms : M (List O)} {i : Nat}
@[simp] theorem wp_d {x : PyData} : Wp (dM x g) A B = A (.d x) g := rfl
@[simp] theorem wp_cons : Wp (consM m ms g) AL B = Wp (m g) (fun o g1 => Wp (ms g1) (fun os g2 => AL (o :: os) g2) B) B := by simp [consM]
@[simp] theorem wp_op {f : List O → Option O} : Wp (opM f ms g) A B = Wp (ms g) (fun os g1 => optW (f os) fun o => A o g1) B := by
  simp only [opM, wp_bd, liftM]
  congr 1
  funext os g1
  cases f os <;> rfl
@[simp] theorem wp_opt {x : Option O} : Wp (optM x g) A B = optW x fun o => A o g := by cases x <;> rfl
@[simp] theorem wp_tst : Wp (tstM m g) AB B = Wp (m g) (fun o g1 => match o with | .d (.bool b) => AB b g1 | _ => False) B := by
  simp only [tstM, wp_bd, asB]
  congr 1
  funext o g1
  split
  · rfl
  · first | rfl | (split <;> first | rfl | simp_all)
@[simp] theorem wp_asI {o : O} {AI : Int → Gs → Prop} : Wp (asI o g) AI B = match o with | .d (.int b) => AI b g | _ => False := by
  unfold asI
  split
  · rfl
  · first | rfl | (split <;> first | rfl | simp_all)
@[simp] theorem wp_asS {o : O} {AI : Str → Gs → Prop} : Wp (asS o g) AI B = match o with | .d (.str b) => AI b g | _ => False := by
  unfold asS
  split
  · rfl
  · first | rfl | (split <;> first | rfl | simp_all)
@[simp] theorem wp_asB {o : O} {AI : Bool → Gs → Prop} : Wp (asB o g) AI B = match o with | .d (.bool b) => AI b g | _ => False := by
  unfold asB
  split
  · rfl
  · first | rfl | (split <;> first | rfl | simp_all)
@[simp] theorem wp_rd : Wp (rdM i g) A B = match g[i]? with | some (some (.d x)) => A (.d x) g | _ => False := by
  unfold rdM
  split
  · simp_all
  · first | rfl | (split <;> first | rfl | simp_all)
@[simp] theorem wp_pk : Wp (pkM i g) A B = match g[i]? with | some (some o) => A o g | _ => False := by
  unfold pkM
  split
  · simp_all
  · first | rfl | (split <;> first | rfl | simp_all)
@[simp] theorem wp_mv : Wp (mvM i g) A B = match g[i]? with | some (some o) => A o (g.set i none) | _ => False := by
  unfold mvM
  split
  · simp_all
  · first | rfl | (split <;> first | rfl | simp_all)
def fzW (i : Nat) (g : Gs) (A : O → Gs → Prop) : Option (Option O) → Prop
  | some (some (.d x)) => A (.d x) g
  | some (some o) => match o.fz with
    | some x => A (.d x) (g.set i (some (.d x)))
    | none => False
  | _ => False
@[simp] theorem fzW_d {x : PyData} : fzW i g A (some (some (.d x))) = A (.d x) g := rfl
theorem fzW_lst {xs : List O} : fzW i g A (some (some (.lst xs))) = match (O.lst xs).fz with | some x => A (.d x) (g.set i (some (.d x))) | none => False := rfl
@[simp] theorem wp_fz : Wp (fzM i g) A B = fzW i g A (g[i]?) := by
  unfold fzM
  cases q : g[i]? with
  | none => rfl
  | some x =>
    cases x with
    | none => rfl
    | some o =>
      cases o with
      | d x => rfl
      | _ =>
        simp only [fzW]
        split <;> rename_i e <;> simp [Wp, e]
@[simp] theorem wp_tup : Wp (tupM ms g) A B = Wp (ms g) (fun os g1 => lenOk os.length = true ∧ A (mkTup os) g1) B := by simp [tupM]
@[simp] theorem wp_lst : Wp (lstM ms g) A B = Wp (ms g) (fun os g1 => lenOk os.length = true ∧ A (.lst os) g1) B := by simp [lstM]
@[simp] theorem wp_if {α : Type} {A : α → Gs → Prop} {c : M Bool} {m n : M α} : Wp (ifM c m n g) A B = Wp (c g) (fun b g1 => if b = true then Wp (m g1) A B else Wp (n g1) A B) B := by simp [ifM]
@[simp] theorem wp_bl {c : M Bool} : Wp (blM c g) A B = Wp (c g) (fun b g1 => A (.d (.bool b)) g1) B := by simp [blM]
@[simp] theorem wp_andV : Wp (andV m n g) A B = Wp (tstM m g) (fun b g1 => if b = true then Wp (n g1) A B else A (.d (.bool false)) g1) B := by simp only [andV, wp_bd, wp_ite, wp_ret]
@[simp] theorem wp_orV : Wp (orV m n g) A B = Wp (tstM m g) (fun b g1 => if b = true then A (.d (.bool true)) g1 else Wp (n g1) A B) B := by simp only [orV, wp_bd, wp_ite, wp_ret]
@[simp] theorem wp_notV : Wp (notV m g) A B = Wp (tstM m g) (fun b g1 => A (.d (.bool (!b))) g1) B := by simp only [notV, wp_bd, wp_ret]
@[simp] theorem wp_notZ {c : M Bool} : Wp (notZ c g) AB B = Wp (c g) (fun b g1 => AB (!b) g1) B := by simp only [notZ, wp_bd, wp_ret]
@[simp] theorem wp_andZ {c d : M Bool} : Wp (andZ c d g) AB B = Wp (c g) (fun b g1 => if b = true then Wp (d g1) AB B else AB false g1) B := by simp only [andZ, wp_bd, wp_ite, wp_ret]
@[simp] theorem wp_orZ {c d : M Bool} : Wp (orZ c d g) AB B = Wp (c g) (fun b g1 => if b = true then AB true g1 else Wp (d g1) AB B) B := by simp only [orZ, wp_bd, wp_ite, wp_ret]
@[simp] theorem wp_seq {a b : M Fl} : Wp (seqM a b g) AF B = Wp (a g) (fun fl g1 => match fl with | .next => Wp (b g1) AF B | .ret o => AF (.ret o) g1 | .brk => AF .brk g1 | .cnt => AF .cnt g1) B := by
  simp only [seqM, wp_bd]
  congr 1
  funext fl g1
  cases fl <;> rfl
@[simp] theorem wp_retM : Wp (retM m g) AF B = Wp (m g) (fun o g1 => AF (.ret o) g1) B := by simp [retM]
@[simp] theorem wp_drop : Wp (dropM m g) AF B = Wp (m g) (fun o g1 => AF .next g1) B := by simp [dropM]
@[simp] theorem wp_asg {f : O → M Unit} : Wp (asgM m f g) AF B = Wp (m g) (fun o g1 => Wp (f o g1) (fun _ g2 => AF .next g2) B) B := by simp [asgM]
@[simp] theorem wp_set {o : O} : Wp (setM i o g) AU B = AU () (g.set i (some o)) := rfl
@[simp] theorem wp_items {o : O} : Wp (itemsM o g) AD B = match o with
  | .d (.list ds) => AD ds g
  | .d (.tuple ds) => AD ds g
  | .d (.str z) => AD (signs z) g
  | .gL ds => AD ds g
  | .gT ds => AD ds g
  | .lst os => optW (allD os) fun ds => AD ds g
  | _ => False := by
  unfold itemsM
  repeat' split
  all_goals first | rfl | simp_all
@[simp] theorem wp_rng1 {os : List O} : Wp (rng1M os g) AD B = match os with | [.d (.int i)] => inRng i = true ∧ AD (intsF 0 i.toNat) g | _ => False := by
  unfold rng1M
  repeat' split
  all_goals simp_all [Wp]
@[simp] theorem wp_rng2 {os : List O} : Wp (rng2M os g) AD B = match os with | [.d (.int i), .d (.int j)] => (inRng i = true ∧ inRng j = true) ∧ AD (intsF i (j - i).toNat) g | _ => False := by
  unfold rng2M
  repeat' split
  all_goals simp_all [Wp]
@[simp] theorem wp_vw : Wp (vwM m g) A B = Wp (m g) (fun o g1 => match o with | .d x => A (.d x) g1 | _ => False) B := by
  refine (wp_bd (m := m)).trans (congrArg (fun Z => Wp (m g) Z B) ?_)
  funext o g1
  cases o <;> rfl
@[simp] theorem wp_ch {f f' : List O → Option O} {ma mb mc : M O} : Wp (chM f f' ma mb mc g) A B = Wp (ma g) (fun x g1 => Wp (mb g1) (fun y g2 => optW (f [x, y]) fun z => match z with
    | .d (.bool k) => if k = true then Wp (mc g2) (fun u g3 => optW (f' [y, u]) fun o => A o g3) B else A (.d (.bool false)) g2
    | _ => False) B) B := by
  simp only [chM, wp_bd, wp_op, wp_ret]
  congr 1
  funext x g1
  congr 1
  funext y g2
  cases f [x, y] with
  | none => rfl
  | some o =>
    simp only [wp_asB, optW_some]
    split
    · rename_i b
      cases b <;> simp
    · first | rfl | (split <;> simp_all)
@[simp] theorem wp_valA {ms : M (List Arg)} : Wp (valA m ms g) AR B = Wp (m g) (fun o g1 => Wp (ms g1) (fun as g2 => AR (.val o :: as) g2) B) B := by simp [valA]
@[simp] theorem wp_slIn {ms : M (List Arg)} : Wp (slIn i ms g) AR B = match g[i]? with | some (some _) => Wp (ms g) (fun as g2 => AR (.sl i :: as) g2) B | _ => False := by
  unfold slIn
  split
  · simp_all [slA]
  · first | rfl | (split <;> first | rfl | simp_all)
@[simp] theorem wp_slLh {ma ml mh : M O} : Wp (slLhM ma ml mh g) A B = Wp (ma g) (fun o g1 => Wp (ml g1) (fun oi g2 => match oi with | .d (.int i) => Wp (mh g2) (fun oj g3 => match oj with | .d (.int j) => (optW (slB o (some i) (some j)) fun r => A r g3) | _ => False) B | _ => False) B) B := by
  simp only [slLhM, wp_bd, wp_asI, wp_opt]
/-- a call -/
theorem wp_call {f : Fn} {dfs : List PyData} {ms : M (List Arg)} : Wp (callM f dfs ms g) A B = Wp (ms g) (fun as g1 => optW (takeA as g1) fun p => FW (f (p.1 ++ dfs.map O.d)) (fun r ps => ps.length = (p.1 ++ dfs.map O.d).length ∧ A r (giveA as (ps.take p.1.length) p.2)) (fun x => B x p.2)) B := by
  refine (wp_bd (m := ms)).trans (congrArg (fun Z => Wp (ms g) Z B) ?_)
  funext as g1
  cases takeA as g1 with
  | none => rfl
  | some p =>
    obtain ⟨os, g2⟩ := p
    simp only [optW_some]
    rw [show Wp _ A B = _ from propext FRes.wp_res]
    congr 1
    funext r ps
    split
    · rename_i h
      simp [Wp, h]
    · rename_i h
      exact propext ⟨fun z => z.elim, fun z => absurd z.1 h⟩
theorem fw_run {np na nN : Nat} {m : M Fl} {os : List O} {A : O → List O → Prop} {B : Exn → Prop} : FW (runF np na nN m os) A B = ((os.length = na ∧ (os.drop np).all isD = true) ∧ Wp (m (os.map some ++ List.replicate (nN - na) none))
    (fun fl g => match fl with
      | .next => FW (finF np os (.d .none) g) A B
      | .ret o => FW (finF np os o g) A B
      | _ => False) (fun x _ => B x)) := by
  unfold runF
  split
  · rename_i h
    simp only [h, and_self, true_and]
    rw [show FW _ A B = _ from propext Res.fw_toF]
    congr 1
    funext fl g
    cases fl <;> rfl
  · rename_i h
    exact propext ⟨fun z => z.elim, fun z => absurd z.1 h⟩
end
theorem Wp.mono {α : Type} {r : Res α} {A A' : α → Gs → Prop} {B B' : Exn → Gs → Prop} (h : Wp r A B) (ha : ∀ a e, A a e → A' a e) (hb : ∀ x e, B x e → B' x e) : Wp r A' B' := h.imp ha hb
theorem FW.mono {r : FRes} {A A' : O → List O → Prop} {B B' : Exn → Prop} (h : FW r A B) (ha : ∀ a e, A a e → A' a e) (hb : ∀ x, B x → B' x) : FW r A' B' := h.imp ha hb
theorem wp_while {c : M Bool} {body : M Fl} {A : Fl → Gs → Prop} {B : Exn → Gs → Prop} (I : Nat → Gs → Prop)
    (hs : ∀ k g, I k g → Wp (c g) (fun b g1 => if b = true then Wp (body g1) (fun fl g2 => match fl with | .next => ∃ j, j < k ∧ I j g2 | .cnt => ∃ j, j < k ∧ I j g2 | .brk => A .next g2 | .ret o => A (.ret o) g2) B else A .next g1) B) :
    ∀ (n k : Nat) (g : Gs), k < n → I k g → Wp (whM c body n g) A B
  | 0, k, g, h, _ => by omega
  | n + 1, k, g, hk, h => by
    simp only [whM, wp_bd]
    refine (hs k g h).mono (fun b g1 q => ?_) fun _ _ z => z
    cases b with
    | false => simpa using q
    | true =>
      simp only [if_true] at q
      simp only [if_true, wp_bd]
      refine q.mono (fun fl g2 z => ?_) fun _ _ z => z
      cases fl with
      | next =>
        obtain ⟨j, hj, z⟩ := z
        exact wp_while I hs n j g2 (by omega) z
      | cnt =>
        obtain ⟨j, hj, z⟩ := z
        exact wp_while I hs n j g2 (by omega) z
      | brk => exact z
      | ret o => exact z
theorem wp_comp {vs : List Nat} {mi : M (List PyData)} {set : O → M Unit} {tst : M Bool} {elt : M O} {g : Gs} {A : O → Gs → Prop} {B : Exn → Gs → Prop} :
    Wp (compM vs mi set tst elt g) A B = Wp (mi g) (fun ds g1 => lenOk ds.length = true ∧ Wp (lcM vs set tst elt ds [] (wipeG g1 vs)) (fun os g3 => A (.lst os) (restG g1 vs g3)) fun _ _ => False) B := by
  refine (wp_bd (m := mi)).trans (congrArg (fun Z => Wp (mi g) Z B) ?_)
  funext ds g1
  split
  · rename_i h
    simp only [h, true_and]
    exact (propext Res.wp_bd).trans (propext Res.wp_noX)
  · rename_i h
    simp [Wp, h]
end Z
namespace Z
open PySem PySem.Spec L2
@[simp] theorem addF_i {i j : Int} : addF [.d (.int i), .d (.int j)] = some (.d (.int (i + j))) := rfl
@[simp] theorem addF_s {i j : Str} : addF [.d (.str i), .d (.str j)] = if lenOk (i.length + j.length) = true then some (.d (.str (i ++ j))) else none := rfl
@[simp] theorem subF_i {i j : Int} : subF [.d (.int i), .d (.int j)] = some (.d (.int (i - j))) := rfl
@[simp] theorem mulF_i {i j : Int} : mulF [.d (.int i), .d (.int j)] = if mulC i j = true then some (.d (.int (i * j))) else none := rfl
@[simp] theorem divF_i {i j : Int} : divF [.d (.int i), .d (.int j)] = if (decide (0 < j) && decide (j < 18446744073709551616)) = true then some (.d (.int (i / j))) else none := rfl
@[simp] theorem modF_i {i j : Int} : modF [.d (.int i), .d (.int j)] = if decide (0 < j) = true then some (.d (.int (i % j))) else none := rfl
@[simp] theorem powF_i {i j : Int} : powF [.d (.int i), .d (.int j)] = if powC i j = true then some (.d (.int (i ^ j.toNat))) else none := rfl
@[simp] theorem ltF_i {i j : Int} : ltF [.d (.int i), .d (.int j)] = some (.d (.bool (decide (i < j)))) := rfl
@[simp] theorem leF_i {i j : Int} : leF [.d (.int i), .d (.int j)] = some (.d (.bool (decide (i ≤ j)))) := rfl
@[simp] theorem gtF_i {i j : Int} : gtF [.d (.int i), .d (.int j)] = some (.d (.bool (decide (j < i)))) := rfl
@[simp] theorem geF_i {i j : Int} : geF [.d (.int i), .d (.int j)] = some (.d (.bool (decide (j ≤ i)))) := rfl
@[simp] theorem max2F_i {i j : Int} : max2F [.d (.int i), .d (.int j)] = some (.d (.int (if j > i then j else i))) := rfl
@[simp] theorem min2F_i {i j : Int} : min2F [.d (.int i), .d (.int j)] = some (.d (.int (if j < i then j else i))) := rfl
@[simp] theorem negF_i {i : Int} : negF [.d (.int i)] = some (.d (.int (-i))) := rfl
@[simp] theorem mulC_r {i j : Int} (h : -18446744073709551616 < j := by omega) (h' : j < 18446744073709551616 := by omega) : mulC i j = true := by simp [mulC, h, h']
@[simp] theorem mulC_l {i j : Int} (h : -18446744073709551616 < i := by omega) (h' : i < 18446744073709551616 := by omega) : mulC i j = true := by simp [mulC, h, h']
@[simp] theorem lenF_gL {ds : List PyData} : lenF [.gL ds] = some (.d (.int ds.length)) := rfl
@[simp] theorem lenF_gT {ds : List PyData} : lenF [.gT ds] = some (.d (.int ds.length)) := rfl
@[simp] theorem lenF_lst {ds : List O} : lenF [.lst ds] = some (.d (.int ds.length)) := rfl
@[simp] theorem lenF_l {ds : List PyData} : lenF [.d (.list ds)] = some (.d (.int ds.length)) := rfl
@[simp] theorem lenF_t {ds : List PyData} : lenF [.d (.tuple ds)] = some (.d (.int ds.length)) := rfl
@[simp] theorem lenF_s {z : Str} : lenF [.d (.str z)] = if lenOk z.length = true then some (.d (.int z.length)) else none := by
  simp only [lenF, lenB]
  split
  · rename_i n e
    split at e
    · rename_i h; cases e; simp [h]
    · cases e
  · rename_i e
    split at e
    · cases e
    · rename_i h; simp [h]
theorem lenOk_of {n : Nat} (h : n ≤ 16777216) : lenOk n = true := decide_eq_true h
theorem atI_nat {α : Type} {xs : List α} {i : Int} (h0 : 0 ≤ i) (h1 : i < xs.length) : ∃ h : i.toNat < xs.length, atI xs i = some xs[i.toNat] := by
  have h : i.toNat < xs.length := by omega
  refine ⟨h, ?_⟩
  unfold atI ixN
  rw [if_pos h0, if_pos h1]
  simp [h]
theorem ixF_s {z : Str} {i : Int} : ixF [.d (.str z), .d (.int i)] = if lenOk z.length = true then (match atI z.cps.toList i with | some c => some (.d (.str ⟨#[c]⟩)) | none => none) else none := rfl
/-- one of a list that is looked at -/
theorem optW_ix {o : O} {ds : List PyData} {i : Int} {A : O → Prop} (e : asLT o = some ds) (h0 : 0 ≤ i) (h1 : i < ds.length) (k : ∀ x, x ∈ ds → A (.d x)) : optW (ixF [o, .d (.int i)]) A := by
  obtain ⟨h, q⟩ := atI_nat h0 h1
  have : ixF [o, .d (.int i)] = some (.d ds[i.toNat]) := by
    unfold ixF
    split
    · rename_i z j heq
      cases heq
      cases e
    · rename_i a j _ heq
      cases heq
      simp only [e, q]
    · rename_i h2
      exact (h2 _ _ rfl).elim
  rw [this]
  exact k _ (List.getElem_mem h)
theorem optW_ixS {z : Str} {i : Int} {A : O → Prop} (hz : z.length ≤ 16777216) (h0 : 0 ≤ i) (h1 : i < z.length) (k : ∀ c, c ∈ z.cps.toList → A (.d (.str ⟨#[c]⟩))) : optW (ixF [.d (.str z), .d (.int i)]) A := by
  rw [ixF_s]
  simp only [lenOk_of hz, if_true]
  obtain ⟨h, q⟩ := atI_nat (xs := z.cps.toList) h0 (by simpa [Str.length] using h1)
  rw [q]
  exact k _ (List.getElem_mem h)
theorem asLT_d {os : List O} {ds : List PyData} (h : allD os = some ds) : asLT (.lst os) = some ds := by simp [asLT, asL, h]
@[simp] theorem asLT_gL {ds : List PyData} : asLT (.gL ds) = some ds := rfl
@[simp] theorem asLT_gT {ds : List PyData} : asLT (.gT ds) = some ds := rfl
@[simp] theorem len_app (a b : Str) : (a ++ b).length = a.length + b.length := PySem.Str.length_append a b
theorem len_cut (z : Str) (lo hi : Option Int) : (cutS z lo hi).length ≤ z.length := by
  simp [cutS, Str.length]
  omega
theorem len_cutHi (z : Str) (n : Nat) : (cutS z none (some (n : Int))).length ≤ n := by
  have h : HT.sIx z.length z.length (some (n : Int)) ≤ n := by rw [HT.sIx_nat]; omega
  have h2 : ∀ (l : List Nat) (k : Nat), ((l.take k).toArray).size ≤ k := fun l k => by simp; omega
  refine Nat.le_trans (h2 _ _) ?_
  show _ - HT.sIx z.length 0 none ≤ n
  rw [HT.sIx_none]
  omega
@[simp] theorem slHi_s {z : Str} {i : Int} : slF false true [.d (.str z), .d (.int i)] = if lenOk z.length = true then some (.d (.str (cutS z none (some i)))) else none := rfl
@[simp] theorem slLo_s {z : Str} {i : Int} : slF true false [.d (.str z), .d (.int i)] = if lenOk z.length = true then some (.d (.str (cutS z (some i) none))) else none := rfl
@[simp] theorem slB_s {z : Str} {l h : Option Int} : slB (.d (.str z)) l h = if lenOk z.length = true then some (.d (.str (cutS z l h))) else none := rfl
@[simp] theorem eqF_s {y z : Str} : eqF [.d (.str y), .d (.str z)] = some (.d (.bool (y == z))) := rfl
@[simp] theorem neF_s {y z : Str} : neF [.d (.str y), .d (.str z)] = some (.d (.bool (!(y == z)))) := rfl
@[simp] theorem eqF_i {y z : Int} : eqF [.d (.int y), .d (.int z)] = some (.d (.bool (y == z))) := by
  simp [eqF, eqB, O.fz, SeqAt.shaped, PyData.eqv, PyData.canLay0, PyData.depth]
@[simp] theorem neF_i {y z : Int} : neF [.d (.int y), .d (.int z)] = some (.d (.bool (!(y == z)))) := by
  simp [neF, eqB, O.fz, SeqAt.shaped, PyData.eqv, PyData.canLay0, PyData.depth]
@[simp] theorem eqF_b {y z : Bool} : eqF [.d (.bool y), .d (.bool z)] = some (.d (.bool (y == z))) := by
  simp [eqF, eqB, O.fz, SeqAt.shaped, PyData.eqv, PyData.canLay0, PyData.depth]
section
variable {A : O → Gs → Prop} {AU : Unit → Gs → Prop} {B : Exn → Gs → Prop} {g : Gs} {m n : M O} {i : Nat}
@[simp] theorem wp_up : Wp (upM m g) A B = Wp (m g) (fun o g1 => match o with | .d (.str s) => decide (s.length ≤ 5592405) = true ∧ A (.d (.str (Txt.upper s))) g1 | _ => False) B := by
  simp only [upM, wp_bd, wp_asS, wp_gd, wp_ret]
  try rfl
@[simp] theorem wp_join : Wp (joinM m n g) A B = Wp (m g) (fun o g1 => match o with | .d (.str s) => Wp (n g1) (fun x g2 => optW (joinB s x) fun r => A r g2) B | _ => False) B := by
  simp only [joinM, wp_bd, wp_asS, wp_opt]
  try rfl
@[simp] theorem wp_ixSet {o : O} : Wp (ixSetM i m o g) AU B = match g[i]? with
    | some (some _) => Wp (m g) (fun oi g1 => match oi with
      | .d (.int k) => (match g1[i]? with
        | some (some (.lst os)) => optW (ixN os.length k) fun j => AU () (g1.set i (some (.lst (os.set j o))))
        | _ => False)
      | _ => False) B
    | _ => False := by
  unfold ixSetM
  cases q : g[i]? with
  | none => rfl
  | some x =>
    cases x with
    | none => rfl
    | some v =>
      simp only
      refine (wp_bd (m := m)).trans (congrArg (fun Z => Wp (m g) Z B) ?_)
      funext oi g1
      refine (wp_bd (m := asI oi)).trans ?_
      rw [wp_asI]
      split
      · cases g1[i]? with
        | none => rfl
        | some y =>
          cases y with
          | none => rfl
          | some y =>
            cases y with
            | lst os =>
              simp only
              cases ixN os.length _ <;> rfl
            | _ => rfl
      · first | rfl | (split <;> first | rfl | simp_all)
@[simp] theorem wp_app : Wp (appLM i m g) A B = match g[i]? with
    | some (some (.lst _)) => Wp (m g) (fun o g1 => match g1[i]? with
        | some (some (.lst os)) => os.length < 16777216 ∧ A (.d .none) (g1.set i (some (.lst (os ++ [o]))))
        | _ => False) B
    | _ => False := by
  unfold appLM
  cases q : g[i]? with
  | none => rfl
  | some x =>
    cases x with
    | none => rfl
    | some v =>
      cases v with
      | lst xs =>
        simp only [appM]
        refine (wp_bd (m := m)).trans (congrArg (fun Z => Wp (m g) Z B) ?_)
        funext o g1
        cases g1[i]? with
        | none => rfl
        | some y =>
          cases y with
          | none => rfl
          | some y =>
            cases y with
            | lst os =>
              simp only
              split
              · rename_i h; simp [Wp, h]
              · rename_i h; simp [Wp, h]
            | _ => rfl
      | _ => rfl
@[simp] theorem wp_isi {n : String} : Wp (isiM n m g) A B = Wp (m g) (fun o g1 => tyN o ≠ "" ∧ optW (kitB (tyN o) n) fun k => A (.d (.bool k)) g1) B := by
  unfold isiM
  refine (wp_bd (m := m)).trans (congrArg (fun Z => Wp (m g) Z B) ?_)
  funext o g1
  split
  · simp_all [Wp]
  · rename_i h
    simp only [h, not_false_eq_true, true_and, ne_eq]
    cases kitB (tyN o) n <;> rfl
end
@[simp] theorem fw_ok {r : O} {ps : List O} {A : O → List O → Prop} {B : Exn → Prop} : FW (.ok r ps) A B = A r ps := rfl
@[simp] theorem fw_bad {A : O → List O → Prop} {B : Exn → Prop} : FW .bad A B = False := rfl
def Bx (o : O) : Prop := ∃ c s : Int, o = .lst [.d (.int c), .d (.int s)]
def g_take : M Fl := (seqM (ifM (tstM (opM gtF (consM (opM ixF (consM (pkM 0) (consM (dM (.int 0)) (M.ret [])))) (consM (dM (.int 0)) (M.ret []))))) (seqM (asgM (opM modF (consM (opM ixF (consM (pkM 0) (consM (dM (.int 0)) (M.ret [])))) (consM (pkM 1) (M.ret [])))) (setM 2))
  (seqM (asgM (opM divF (consM (opM ixF (consM (pkM 0) (consM (dM (.int 0)) (M.ret [])))) (consM (pkM 1) (M.ret [])))) (ixSetM 0 (dM (.int 0))))
  (retM (mvM 2)))) (M.ret .next))
  (seqM (asgM (opM modF (consM (opM mulF (consM (opM ixF (consM (pkM 0) (consM (dM (.int 1)) (M.ret [])))) (consM (dM (.int 69623)) (M.ret [])))) (consM (dM (.int 2147483647)) (M.ret [])))) (setM 3))
  (seqM (asgM (opM addF (consM (opM modF (consM (opM addF (consM (opM mulF (consM (pkM 3) (consM (dM (.int 48271)) (M.ret [])))) (consM (dM (.int 30103)) (M.ret [])))) (consM (dM (.int 2147483629)) (M.ret [])))) (consM (dM (.int 1)) (M.ret [])))) (ixSetM 0 (dM (.int 1))))
  (retM (opM modF (consM (opM divF (consM (opM addF (consM (opM mulF (consM (pkM 3) (consM (dM (.int 2147483647)) (M.ret [])))) (consM (opM ixF (consM (pkM 0) (consM (dM (.int 1)) (M.ret [])))) (M.ret [])))) (consM (dM (.int 8191)) (M.ret [])))) (consM (pkM 1) (M.ret []))))))))
def f_take : Fn := runF 2 2 4 g_take
theorem ix2a {c s : Int} : ixF [.lst [.d (.int c), .d (.int s)], .d (.int 0)] = some (.d (.int c)) := by rfl
theorem ix2b {c s : Int} : ixF [.lst [.d (.int c), .d (.int s)], .d (.int 1)] = some (.d (.int s)) := by rfl
theorem fw_take {bx : O} {n : Int} (h : Bx bx) (h0 : 0 < n) (h1 : n < 18446744073709551616) {A : O → List O → Prop} {B : Exn → Prop} (k : ∀ (r : Int) (bx' : O), Bx bx' → 0 ≤ r → r < n → A (.d (.int r)) [bx', .d (.int n)]) :
    FW (f_take [bx, .d (.int n)]) A B := by
  obtain ⟨c, s, rfl⟩ := h
  simp [f_take, fw_run, g_take, ix2a, ix2b, isD, h0, h1, ixN, finF, optAll]
  split
  · exact k _ _ ⟨_, _, rfl⟩ (Int.emod_nonneg _ (by omega)) (Int.emod_lt_of_pos _ h0)
  · exact k _ _ ⟨_, _, rfl⟩ (Int.emod_nonneg _ (by omega)) (Int.emod_lt_of_pos _ h0)
end Z
namespace Z
open PySem PySem.Spec L2
section
variable {α : Type} {A : O → Gs → Prop} {AO : O → Prop} {AB : Bool → Gs → Prop} {AF : Fl → Gs → Prop} {AL : List O → Gs → Prop} {AU : Unit → Gs → Prop} {AR : List Arg → Gs → Prop} {AD : List PyData → Gs → Prop} {B : Exn → Gs → Prop} {g g' : Gs} {m n : M O} {ms : M (List O)} {i k : Nat} {o : O}
theorem z_rd {x : PyData} (h : g[i]? = some (some (.d x))) (k : A (.d x) g) : Wp (rdM i g) A B := by rw [wp_rd, h]; exact k
theorem z_pk (h : g[i]? = some (some o)) (k : A o g) : Wp (pkM i g) A B := by rw [wp_pk, h]; exact k
theorem z_mv (h : g[i]? = some (some o)) (e : g.set i none = g') (k : A o g') : Wp (mvM i g) A B := by subst e; rw [wp_mv, h]; exact k
theorem z_fz {x : PyData} (h : g[i]? = some (some (.d x))) (k : A (.d x) g) : Wp (fzM i g) A B := by rw [wp_fz, h]; exact k
theorem z_fzL {x : PyData} {xs : List O} (h : g[i]? = some (some (.lst xs))) (f : (O.lst xs).fz = some x) (e : g.set i (some (.d x)) = g') (k : A (.d x) g') : Wp (fzM i g) A B := by subst e; rw [wp_fz, h, fzW_lst, f]; exact k
theorem z_fzT {x : PyData} {xs : List O} (h : g[i]? = some (some (.tup xs))) (f : (O.tup xs).fz = some x) (e : g.set i (some (.d x)) = g') (k : A (.d x) g') : Wp (fzM i g) A B := by
  subst e; rw [wp_fz, h]
  show match (O.tup xs).fz with | some x => A (.d x) (g.set i (some (.d x))) | none => False
  rw [f]; exact k
theorem z_set (e : g.set i (some o) = g') (k : AU () g') : Wp (setM i o g) AU B := by subst e; exact k
theorem z_sl {ms : M (List Arg)} (h : g[i]? = some (some o)) (k : Wp (ms g) (fun as g2 => AR (.sl i :: as) g2) B) : Wp (slIn i ms g) AR B := by rw [wp_slIn, h]; exact k
theorem z_itO {os : List O} {ds : List PyData} (h : allD os = some ds) (k : AD ds g) : Wp (itemsM (.lst os) g) AD B := by rw [wp_items]; simp only [h]; exact k
theorem z_rng1 {i : Int} (h0 : -4611686018427387904 ≤ i := by omega) (h1 : i < 4611686018427387904 := by omega) (k : AD (intsF 0 i.toNat) g) : Wp (rng1M [.d (.int i)] g) AD B := by
  rw [wp_rng1]
  exact ⟨by simp [inRng, h0, h1], k⟩
theorem z_rng2 {i j : Int} (h0 : -4611686018427387904 ≤ i := by omega) (h1 : i < 4611686018427387904 := by omega) (h2 : -4611686018427387904 ≤ j := by omega) (h3 : j < 4611686018427387904 := by omega) (k : AD (intsF i (j - i).toNat) g) : Wp (rng2M [.d (.int i), .d (.int j)] g) AD B := by
  rw [wp_rng2]
  exact ⟨⟨by simp [inRng, h0, h1], by simp [inRng, h2, h3]⟩, k⟩
def Bw (A : O → Gs → Prop) (as : List Arg) (n k : Nat) (g : Gs) (r : O) (ps : List O) : Prop := ps.length = k ∧ A r (giveA as (ps.take n) g)
def Cw (f : Fn) (dfs : List PyData) (A : O → Gs → Prop) (B : Exn → Gs → Prop) (as : List Arg) (g : Gs) : Prop := optW (takeA as g) fun p => FW (f (p.1 ++ dfs.map O.d)) (fun r ps => Bw A as p.1.length (p.1 ++ dfs.map O.d).length p.2 r ps) (fun x => B x p.2)
theorem z_call {f : Fn} {dfs : List PyData} {ms : M (List Arg)} (k : Wp (ms g) (fun as g1 => Cw f dfs A B as g1) B) : Wp (callM f dfs ms g) A B := by
  rw [wp_call]
  exact k
theorem z_cw {f : Fn} {dfs : List PyData} {as : List Arg} {os os' : List O} (ht : takeA as g = some (os, g')) (ho : os ++ dfs.map O.d = os') (k : FW (f os') (fun r ps => Bw A as os.length os'.length g' r ps) (fun x => B x g')) : Cw f dfs A B as g := by
  subst ho
  unfold Cw
  rw [ht]
  exact k
theorem z_fin {np : Nat} {os ps : List O} {A : O → List O → Prop} {B : Exn → Prop} (h : optAll (g.take np) = some ps) (k : A o (ps ++ os.drop np)) : FW (finF np os o g) A B := by
  unfold finF
  rw [h]
  exact k
theorem z_run {np na nN : Nat} {m : M Fl} {os : List O} {gs : Gs} {A : O → List O → Prop} {B : Exn → Prop} (h : os.length = na) (h2 : (os.drop np).all isD = true) (e : os.map some ++ List.replicate (nN - na) none = gs) (k : Wp (m gs)
    (fun fl g => match fl with
      | .next => FW (finF np os (.d .none) g) A B
      | .ret o => FW (finF np os o g) A B
      | _ => False) (fun x _ => B x)) : FW (runF np na nN m os) A B := by
  subst e
  rw [fw_run]
  exact ⟨⟨h, h2⟩, k⟩
variable {x y : Int} {s t : Str} {ds : List PyData} {os : List O}
theorem z_mulI (h : mulC x y = true := by first | exact mulC_l | exact mulC_r) (k : AO (.d (.int (x * y)))) : optW (mulF [.d (.int x), .d (.int y)]) AO := by rw [mulF_i, if_pos h]; exact k
theorem z_divI (h0 : 0 < y := by omega) (h1 : y < 18446744073709551616 := by omega) (k : AO (.d (.int (x / y)))) : optW (divF [.d (.int x), .d (.int y)]) AO := by rw [divF_i, if_pos (by simp [h0, h1])]; exact k
theorem z_modI (h0 : 0 < y := by omega) (k : AO (.d (.int (x % y)))) : optW (modF [.d (.int x), .d (.int y)]) AO := by rw [modF_i, if_pos (by simp [h0])]; exact k
theorem z_powI (h : powC x y = true) (k : AO (.d (.int (x ^ y.toNat)))) : optW (powF [.d (.int x), .d (.int y)]) AO := by rw [powF_i, if_pos h]; exact k
theorem z_maxI (k : AO (.d (.int (max x y)))) : optW (max2F [.d (.int x), .d (.int y)]) AO := by
  have e : (if y > x then y else x) = max x y := by omega
  rw [max2F_i, e]; exact k
theorem z_minI (k : AO (.d (.int (min x y)))) : optW (min2F [.d (.int x), .d (.int y)]) AO := by
  have e : (if y < x then y else x) = min x y := by omega
  rw [min2F_i, e]; exact k
theorem z_eqI (k : AO (.d (.bool (x == y)))) : optW (eqF [.d (.int x), .d (.int y)]) AO := by rw [eqF_i]; exact k
theorem z_neI (k : AO (.d (.bool (!(x == y))))) : optW (neF [.d (.int x), .d (.int y)]) AO := by rw [neF_i]; exact k
theorem z_eqB {p q : Bool} (k : AO (.d (.bool (p == q)))) : optW (eqF [.d (.bool p), .d (.bool q)]) AO := by rw [eqF_b]; exact k
theorem z_eqS (k : AO (.d (.bool (s == t)))) : optW (eqF [.d (.str s), .d (.str t)]) AO := k
theorem z_neS (k : AO (.d (.bool (!(s == t))))) : optW (neF [.d (.str s), .d (.str t)]) AO := k
theorem z_addS (h : s.length + t.length ≤ 16777216) (k : AO (.d (.str (s ++ t)))) : optW (addF [.d (.str s), .d (.str t)]) AO := by rw [addF_s, if_pos (lenOk_of h)]; exact k
theorem z_lenS (h : s.length ≤ 16777216) (k : AO (.d (.int s.length))) : optW (lenF [.d (.str s)]) AO := by rw [lenF_s, if_pos (lenOk_of h)]; exact k
theorem z_slHi (h : s.length ≤ 16777216) (k : AO (.d (.str (cutS s none (some x))))) : optW (slF false true [.d (.str s), .d (.int x)]) AO := by rw [slHi_s, if_pos (lenOk_of h)]; exact k
theorem z_slLo (h : s.length ≤ 16777216) (k : AO (.d (.str (cutS s (some x) none)))) : optW (slF true false [.d (.str s), .d (.int x)]) AO := by rw [slLo_s, if_pos (lenOk_of h)]; exact k
theorem z_slB {l r : Option Int} (h : s.length ≤ 16777216) (k : AO (.d (.str (cutS s l r)))) : optW (slB (.d (.str s)) l r) AO := by rw [slB_s, if_pos (lenOk_of h)]; exact k
theorem z_addLL {xs ys : List PyData} {as bs : List O} (ha : allD as = some xs) (hb : allD bs = some ys) (hl : xs.length + ys.length ≤ 16777216) (k : AO (.lst ((xs ++ ys).map O.d))) : optW (addF [.lst as, .lst bs]) AO := by
  have e : addF [.lst as, .lst bs] = some (.lst ((xs ++ ys).map O.d)) := by simp [addF, asL, ha, hb, lenOk_of hl]
  rw [e]; exact k
theorem z_addDL {xs ys : List PyData} {bs : List O} (hb : allD bs = some ys) (hl : xs.length + ys.length ≤ 16777216) (k : AO (.lst ((xs ++ ys).map O.d))) : optW (addF [.d (.list xs), .lst bs]) AO := by
  have e : addF [.d (.list xs), .lst bs] = some (.lst ((xs ++ ys).map O.d)) := by simp [addF, asL, hb, lenOk_of hl]
  rw [e]; exact k
theorem z_addLD {xs ys : List PyData} {as : List O} (ha : allD as = some xs) (hl : xs.length + ys.length ≤ 16777216) (k : AO (.lst ((xs ++ ys).map O.d))) : optW (addF [.lst as, .d (.list ys)]) AO := by
  have e : addF [.lst as, .d (.list ys)] = some (.lst ((xs ++ ys).map O.d)) := by simp [addF, asL, ha, lenOk_of hl]
  rw [e]; exact k
theorem z_addDD {xs ys : List PyData} (hl : xs.length + ys.length ≤ 16777216) (k : AO (.lst ((xs ++ ys).map O.d))) : optW (addF [.d (.list xs), .d (.list ys)]) AO := by
  have e : addF [.d (.list xs), .d (.list ys)] = some (.lst ((xs ++ ys).map O.d)) := by simp [addF, asL, lenOk_of hl]
  rw [e]; exact k
theorem z_addTT {xs ys : List PyData} (hl : xs.length + ys.length ≤ 16777216) (k : AO (.d (.tuple (xs ++ ys)))) : optW (addF [.d (.tuple xs), .d (.tuple ys)]) AO := by
  have e : addF [.d (.tuple xs), .d (.tuple ys)] = some (.d (.tuple (xs ++ ys))) := by simp [addF, asL, asT, lenOk_of hl]
  rw [e]; exact k
theorem z_in {neg b : Bool} {o p : O} (h : inB o p = some b) (k : AO (.d (.bool (if neg then !b else b)))) : optW (inF neg [o, p]) AO := by
  unfold inF
  simp only [h]
  exact k
end
end Z
namespace Z
open PySem PySem.Spec L2
section
variable {X : Cx} {W : WX} {pu pv pw : Bool} {H H' : Hp} {Ex : List (Addr × HO)} {σ σ' : L2.St} {g : Gs} {T T' ws ws' rs : Roots} {e a b o lo hi : Expr} {es : List Expr} {m : M O} {ms : M (List O)} {pos p p2 apos : Pos} {k j np : Nat} {x : Str}
theorem zipErase : ∀ {vs : List V} {os : List O} {j : Nat}, (vs.zip os).eraseIdx j = (vs.eraseIdx j).zip (os.eraseIdx j)
  | [], _, _ => by simp
  | _ :: _, [], j => by cases j <;> simp
  | v :: vs, q :: os, 0 => by simp
  | v :: vs, q :: os, j + 1 => by simp [zipErase (vs := vs) (os := os) (j := j)]
theorem At.take {i j : Nat} {os : List O} {v : V} (a : At X H Ex σ g T ws) (hg : g[i]? = some (some (.lst os))) (hv : σ[i]? = some (some v)) (hj : j < os.length) : ∃ ad vs, v = .ref ad ∧ H ad = some (.lst vs) ∧ ∃ hl : vs.length = os.length,
    At X (upd H ad (.lst (vs.eraseIdx j))) Ex σ (g.set i (some (.lst (os.eraseIdx j)))) ((vs[j]'(by omega), os[j]) :: T) [] := by
  have r := (a.get hg hv).noviews
  obtain ⟨ad, ho, vs, os1, e1, e2, p, hl, r2⟩ := r.opn rfl
  cases p
  refine ⟨ad, vs, e1, e2, hl, ?_⟩
  subst e1
  have hjz : j < (vs.zip os).length := by rw [List.length_zip]; omega
  have p1 : (vs.zip os).Perm ((vs.zip os)[j] :: (vs.zip os).eraseIdx j) := (permErase hjz).symm
  have e3 : (vs.zip os)[j] = (vs[j]'(by omega), os[j]) := by simp
  rw [e3, zipErase] at p1
  have r3 := (r2.perm (p1.append_right _)).write (.lst (vs.eraseIdx j))
  rw [List.cons_append] at r3
  have r4 := (r3.perm (List.perm_middle (a := (vs[j]'(by omega), os[j])) (l₁ := (vs.eraseIdx j).zip (os.eraseIdx j)) (l₂ := roots σ (g.set i none) ++ T)).symm).shut (.lst (os := os.eraseIdx j)) (by rw [List.length_eraseIdx, List.length_eraseIdx, hl])
  exact .put a.fit hv (r4.perm (List.Perm.cons _ List.perm_middle.symm))
def pop0M (i : Nat) : M O := fun g => match g[i]? with
  | some (some (.lst os)) => match os[os.length - 1]? with
    | some o => .ok o (g.set i (some (.lst os.dropLast)))
    | none => .bad
  | _ => .bad
def popIM (i : Nat) (m : M O) : M O := M.bd m fun oi => M.bd (asI oi) fun k g => match g[i]? with
  | some (some (.lst os)) => if decide (-9223372036854775808 ≤ k) && decide (k < 9223372036854775808) then match seqIndex? k os.length with
    | some j => match os[j]? with
      | some o => .ok o (g.set i (some (.lst (os.eraseIdx j))))
      | none => .bad
    | none => .bad else .bad
  | _ => .bad
def popLM (i : Nat) (m : M O) : M O := fun g => match g[i]? with
  | some (some (.lst _)) => popIM i m g
  | _ => .bad
end
end Z
namespace Z
open PySem PySem.Spec L2
section
variable {X : Cx} {W : WX} {pu pv pw : Bool} {H H' : Hp} {Ex : List (Addr × HO)} {σ σ' : L2.St} {g : Gs} {T T' ws ws' rs : Roots} {e a b o lo hi : Expr} {es : List Expr} {m : M O} {ms : M (List O)} {pos p p2 apos : Pos} {k j np : Nat} {x : Str}
def rTimS : R2 := fun x y H Q => ∃ (i : Str) (n : Int), x = .str i ∧ y = .int n ∧ -9223372036854775808 ≤ n ∧ n ≤ 1 ∧ Q (.str (if n = 1 then i else Str.empty)) H
theorem op_timS : OpR X (binaryOp .Mult) rTimS := by
  intro pins s σ H x y v u Q I rx ry h
  obtain ⟨i, n, rfl, rfl, h0, h1, q⟩ := h
  obtain ⟨t, rfl⟩ := rx
  obtain ⟨t', rfl⟩ := ry
  by_cases e : n = 1
  · subst e
    rw [if_pos rfl] at q
    refine P.mul_str (by decide) (fun _ z => by simp at z) (fun _ z => by simp at z) ?_
    rw [if_neg (by decide), if_pos (by simp)]
    exact ⟨.str i, H, I, ⟨_, rfl⟩, q⟩
  · rw [if_neg e] at q
    exact P.mul_str_none (by omega) (by omega) ⟨.str Str.empty, H, I.tok _, ⟨_, rfl⟩, q⟩
def rTim4 : R2 := fun x y H Q => rI CMul (fun i j => .int (i * j)) x y H Q ∨ rRep x y H Q ∨ rTimS x y H Q
theorem op_tim4 : OpR X (binaryOp .Mult) rTim4 := OpR.or op_mul (OpR.or op_rep op_timS)
def timF : List O → Option O
  | [.d (.int i), .d (.int j)] => if mulC i j = true then some (.d (.int (i * j))) else none
  | [.d (.str i), .d (.int j)] => if (decide (-9223372036854775808 ≤ j) && decide (j ≤ 1)) = true then some (.d (.str (if j = 1 then i else Str.empty))) else none
  | [a, .d (.int j)] => match asL a with
    | some ds => if (decide (-9223372036854775808 ≤ j) && decide (j < 9223372036854775808) && lenOk (ds.length * j.toNat)) = true then some (.lst ((List.replicate j.toNat ds).flatten.map O.d)) else none
    | none => none
  | _ => none
theorem owLT {K : PySem.W.Frag} {mg : Str → Option Value} {Hf : Fz} {v : V} {o : O} {as : List Addr} {ds : List PyData} (s : Hf.on K H) (h : Ow K mg Hf H v o as) (e : asL o = some ds) : ∃ a vs, v = .ref a ∧ H a = some (.lst vs) ∧ DpAll K Hf.h vs ds := by
  cases h with
  | d h =>
    cases h with
    | lst h1 h2 =>
      simp only [asL, Option.some.injEq] at e
      subst e
      exact ⟨_, _, rfl, s _ _ h1, h2⟩
    | _ => simp [asL] at e
  | lst h1 h2 =>
    simp only [asL] at e
    exact ⟨_, _, rfl, h1, owAllD h2 e⟩
  | _ => simp [asL] at e
theorem dpRep {K : PySem.W.Frag} {Hf : Hp} {vs : List V} {ds : List PyData} (h : DpAll K Hf vs ds) : ∀ n : Nat, DpAll K Hf (List.replicate n vs).flatten (List.replicate n ds).flatten
  | 0 => .nil
  | n + 1 => by
    simp only [List.replicate_succ, List.flatten_cons]
    exact dpApp h (dpRep h n)
theorem pr_tim : PR X (r2L rTim4) timF := by
  intro xs os H Ex rs ws Q o hl r hf k5
  unfold timF at hf
  split at hf
  · rename_i i j
    split at hf
    · rename_i hc
      cases hf
      have pr := pr_mul (X := X) xs [.d (.int i), .d (.int j)] H Ex rs ws Q _ hl r (by rw [mulF_i, if_pos hc]) k5
      obtain ⟨x, y, rfl⟩ := two hl
      exact .inl pr
    · cases hf
  · rename_i i j
    split at hf
    · rename_i hc
      cases hf
      obtain ⟨x, y, rfl⟩ := two hl
      obtain ⟨Hf, s, hw, cl⟩ := r.fr
      obtain ⟨_, h1⟩ := hw _ zipHead
      obtain ⟨_, h2⟩ := hw _ zipSnd
      obtain rfl := owS h1
      obtain rfl := owI h2
      have hc' := Bool.and_eq_true_iff.mp hc
      exact .inr (.inr ⟨i, j, rfl, rfl, of_decide_eq_true hc'.1, of_decide_eq_true hc'.2, k5 _ _ (Same.refl _) (r.data fun _ => .str _)⟩)
    · cases hf
  · rename_i a j _ _
    split at hf
    · rename_i ds e
      split at hf
      · rename_i hc
        cases hf
        obtain ⟨x, y, rfl⟩ := two hl
        obtain ⟨Hf, s, hw, cl⟩ := r.fr
        obtain ⟨_, h1⟩ := hw _ zipHead
        obtain ⟨_, h2⟩ := hw _ zipSnd
        obtain rfl := owI h2
        obtain ⟨ad, vs, rfl, ht, hd⟩ := owLT s h1 e
        simp only [Bool.and_eq_true, decide_eq_true_eq] at hc
        refine .inr (.inl ⟨ad, j, vs, rfl, rfl, ht, by omega, by omega, by rw [dpLen hd]; exact lenOk_le hc.2, fun p hp => ?_⟩)
        have hr := dpRep hd j.toNat
        have r2 := (cl _ _ hr)
        exact k5 _ _ (sameNew hp _) ((r2.mkLst (dpLen hr) hp))
      · cases hf
    · cases hf
  · cases hf
end
end Z
namespace Z
open PySem PySem.Spec L2
section
variable {X : Cx} {W : WX} {pu pv pw : Bool} {H H' : Hp} {Ex : List (Addr × HO)} {σ σ' : L2.St} {g : Gs} {T T' ws ws' rs : Roots} {e a b o lo hi : Expr} {es : List Expr} {m : M O} {ms : M (List O)} {pos p p2 apos : Pos} {k j np : Nat} {x : Str}
def FT (H : Hp) (x : V) : Prop := ∃ (q : Addr) (ob : Obj) (xs : List V), x = .ref q ∧ H q = some (.frz ob (.tup xs)) ∧ ob.dict = none
theorem ft_is {pins : List (Addr × Obj)} {s : Shared} {v : V} {u : Value} (I : Inv X pins σ H s) (r : RelV v u) (f : FT H v) : s.TypeIs u "tuple" ∧ ∀ a, u = .ref a → ∃ ob, s.heap.get? a = some ob ∧ ob.dict = none := by
  obtain ⟨q, ob, xs, rfl, hq, hn⟩ := f
  cases r
  obtain ⟨g1, z, its, r1, ob', g2, c, _⟩ := I.hok q _ hq
  refine ⟨⟨_, g2, c⟩, fun a e => ?_⟩
  cases e
  exact ⟨ob, g1, hn⟩
def rTI (K : PySem.W.Frag) : V → List V → Hp → VK → Prop := fun x xs H Q => ∃ p, ∃ ys : List Str, ∃ z j, x = .ref p ∧ xs = [.str z] ∧ SqT K H p (ys.map V.str) ∧ ys[j]? = some z ∧ (∀ m, m < j → ys[m]? ≠ some z) ∧ Q (.int (j : Nat)) H
def rSI : V → List V → Hp → VK → Prop := fun x xs H Q => ∃ a b i rest, x = .str a ∧ xs = [.str b] ∧ Builtin.Str.occurrences a b 0 a.length 1 = i :: rest ∧ Q (.int (i : Nat)) H
def tIdx (X : Cx) (to te : TE) : TE := fun σ H Q => to σ H fun x H1 => (FT H1 x ∧ te σ H1 fun y H2 => rTI X.K x [y] H2 Q) ∨ (tyV X.K "list" x H1 ∧ te σ H1 fun y H2 => rIndex X.K x [y] H2 Q) ∨ (tyV X.K "str" x H1 ∧ te σ H1 fun y H2 => rSI x [y] H2 Q)
theorem pe_idx {to te : TE} (ho : PE X o to) (he : PE X e te) (hbase : attributeBase o "index" X.env (eval o X.env) = eval o X.env := by rfl) (hline : (apos.endLine == pos.line) = true := by rfl) (hs : starEach [e] X.env = [(false, eval e X.env)] := by rfl) :
    PE X (.Call (.Attribute o "index" apos) [e] [] pos) (tIdx X to te) := by
  refine ⟨fun pins s σ H Q I h => ?_⟩
  refine PySem.Call_method1 hbase hs hline (thn (ho.run pins s σ H _ I h) fun v s1 w => ?_)
  obtain ⟨x, H1, I1, r1, w⟩ := w
  rcases w with ⟨f, w⟩ | ⟨f, w⟩ | ⟨f, w⟩
  · obtain ⟨t1, t2⟩ := ft_is I1 r1 f
    refine ⟨"tuple", "tuple.index", PySem.F.plainAttrs_tuple, PySem.F.slot_tuple_index, PySem.F.type_tuple_index, t1, t2, Calls.callWith_builtin rfl (Calls.evalArgs_plain (Calls.spliced_cons ?_))⟩
    refine thn (he.run pins s1 σ H1 _ I1 w) fun u s2 w2 => ?_
    obtain ⟨y, H2, I2, r2, q⟩ := w2
    exact Calls.spliced_nil (mt_tup_index pins s2 σ H2 x [y] v [u] Q I2 r1 (.cons r2 .nil) q)
  · obtain ⟨t1, t2⟩ := tyV_is I1 r1 f
    refine ⟨"list", "list.index", PySem.F.plainAttrs_list, PySem.F.slot_list_index, PySem.F.type_list_index, t1, t2, Calls.callWith_builtin rfl (Calls.evalArgs_plain (Calls.spliced_cons ?_))⟩
    refine thn (he.run pins s1 σ H1 _ I1 w) fun u s2 w2 => ?_
    obtain ⟨y, H2, I2, r2, q⟩ := w2
    exact Calls.spliced_nil (mt_index pins s2 σ H2 x [y] v [u] Q I2 r1 (.cons r2 .nil) q)
  · obtain ⟨t1, t2⟩ := tyV_is I1 r1 f
    refine ⟨"str", "str.index", PySem.F.plainAttrs_str, PySem.F.slot_str_index, PySem.F.type_str_index, t1, t2, Calls.callWith_builtin rfl (Calls.evalArgs_plain (Calls.spliced_cons ?_))⟩
    refine thn (he.run pins s1 σ H1 _ I1 w) fun u s2 w2 => ?_
    obtain ⟨y, H2, I2, r2, q⟩ := w2
    exact Calls.spliced_nil (mt_sindex pins s2 σ H2 x [y] v [u] Q I2 r1 (.cons r2 .nil) q)
/-- what stands at: texts in a tuple, data in a list, signs -/
inductive Ixd where
  | t (ys : List Str)
  | l (ds : List PyData)
  | s (z : Str)
def ixdOf : O → Option Ixd
  | .d (.tuple ds) => match strsOf ds with | some ys => if ys.isEmpty then none else some (.t ys) | none => none
  | .d (.str z) => some (.s z)
  | _ => none
def idxV (i : Ixd) (o : O) : Option O := match i, o with
  | .t ys, .d (.str z) => match ys.findIdx? (fun y => y == z) with | some j => some (.d (.int j)) | none => none
  | .l ds, .d e => if flatD e = true then match ds.findIdx? (fun y => PyData.eqv y e) with | some j => some (.d (.int j)) | none => none else none
  | .s a, .d (.str b) => match Builtin.Str.occurrences a b 0 a.length 1 with | i :: _ => some (.d (.int i)) | [] => none
  | _, _ => none
def optG {α : Type} (o : Option α) : M α := fun g => match o with
  | some r => .ok r g
  | none => .bad
theorem wpOptG {α : Type} {o : Option α} {g : Gs} {A : α → Gs → Prop} {B : Exn → Gs → Prop} (h : Wp (optG o g) A B) : ∃ r, o = some r ∧ A r g := by
  unfold optG at h
  split at h
  · exact ⟨_, rfl, h⟩
  · exact h.elim
theorem strsIdx : ∀ {ds : List PyData} {ys : List Str}, strsOf ds = some ys → ys.isEmpty = false → idxS ds = true
  | [], ys, h, e => by simp only [strsOf, Option.some.injEq] at h; subst h; cases e
  | d :: r, ys, h, _ => by
    have all : ∀ {ds : List PyData} {ys : List Str}, strsOf ds = some ys → ds.all (fun d => match d with | .str _ => true | _ => false) = true := by
      intro ds
      induction ds with
      | nil => intros; rfl
      | cons d r ih =>
        intro ys h
        cases d with
        | str z =>
          simp only [strsOf] at h
          cases q : strsOf r with
          | none => rw [q] at h; cases h
          | some l => simp only [List.all_cons, Bool.true_and]; exact ih q
        | _ => simp [strsOf] at h
    simp only [idxS, List.isEmpty_cons, Bool.not_false, Bool.true_and]
    exact all h
def idxM (mo me : M O) : M O := M.bd mo fun o => M.bd (optG (ixdOf o)) fun i => M.bd me fun x => optM (idxV i x)
theorem ev_idx {ma : M O} (ho : Ev X W pu o m) (ha : EvP X W pv a ma) (hbase : attributeBase o "index" X.env (eval o X.env) = eval o X.env := by rfl) (hline : (apos.endLine == pos.line) = true := by rfl) (hs : starEach [a] X.env = [(false, eval a X.env)] := by rfl) :
    Ev X W (pu && pv) (.Call (.Attribute o "index" apos) [a] [] pos) (idxM m ma) := by
  obtain ⟨to, o1, o2⟩ := ho.ex
  obtain ⟨ta, a1, a2⟩ := ha.ex
  refine ⟨_, pe_idx o1 a1 hbase hline hs, fun σ H Q g T Ex ws a w => ?_⟩
  refine o2 σ H _ g T Ex ws a (w.bd.imp (fun o g1 k3 v H1 s1 b1 => ?_) fun _ _ k3 => k3)
  obtain ⟨i, hi, k1⟩ := wpOptG k3.bd
  clear k3
  unfold ixdOf at hi
  split at hi
  · rename_i ds
    split at hi
    · rename_i ys hy
      split at hi
      · cases hi
      rename_i hne
      cases hi
      have hx := strsIdx hy (by simpa using hne)
      refine .inl ⟨?_, ?_⟩
      · obtain ⟨Hf, s, h, _⟩ := b1.top.headDp
        cases h with
        | tup _ z _ => rw [hx] at z; cases z
        | ftup q z _ _ => exact ⟨_, _, _, rfl, s _ _ q, z⟩
      · refine a2 σ H1 _ g1 _ Ex _ b1 (k1.bd.imp (fun ox g2 k4 u H2 s2 b2 => ?_) fun x g2 k4 H' cls d a2 e => k4 H' cls d a2.drop e)
        obtain ⟨r, hr, k2⟩ := wpOpt k4
        unfold idxV at hr
        split at hr
        · rename_i ys' z hh
          cases hh
          split at hr
          · rename_i j hj
            cases hr
            obtain ⟨hlt, hat, hbefore⟩ := List.findIdx?_eq_some_iff_getElem.mp hj
            obtain ⟨Hf, sm, hw, cl⟩ := b2.rel.fr
            obtain ⟨_, h1⟩ := hw _ List.mem_cons_self
            obtain rfl := owS h1
            obtain ⟨Hf2, sm2, h2, _⟩ := b2.top.headDp
            obtain ⟨p, vs, rfl, sq, pp⟩ := dpTup h2
            obtain rfl := strsOf_ok hy pp
            refine ⟨p, ys, z, j, rfl, rfl, sameT sm2 sq, ?_, fun n hn e => ?_, ?_⟩
            · rw [List.getElem?_eq_getElem hlt]
              exact congrArg some (by simpa using hat)
            · have := hbefore n hn
              have hn' : n < ys.length := by omega
              rw [List.getElem?_eq_getElem hn'] at e
              cases e
              simp at this
            · exact k2 _ H2 (purTr s1 s2) ((b2.drop.data fun _ => .int _).views fun p m => List.mem_cons_of_mem _ (by rw [vsVs]; exact m))
          · cases hr
        · rename_i hh; cases hh
        · rename_i hh; cases hh
        · cases hr
    · cases hi
  · rename_i z
    cases hi
    obtain rfl := b1.top.isS
    refine .inr (.inr ⟨rfl, ?_⟩)
    refine a2 σ H1 _ g1 _ Ex _ b1 (k1.bd.imp (fun ox g2 k4 u H2 s2 b2 => ?_) fun x g2 k4 H' cls d a2 e => k4 H' cls d a2.drop e)
    obtain ⟨r, hr, k2⟩ := wpOpt k4
    unfold idxV at hr
    split at hr
    · rename_i hh; cases hh
    · rename_i hh; cases hh
    · rename_i a' b' hh
      cases hh
      split at hr
      · rename_i i rest hoc
        cases hr
        obtain ⟨Hf, sm, hw, cl⟩ := b2.rel.fr
        obtain ⟨_, h1⟩ := hw _ List.mem_cons_self
        obtain rfl := owS h1
        exact ⟨_, _, i, rest, rfl, rfl, hoc, k2 _ H2 (purTr s1 s2) ((b2.drop.data fun _ => .int _).views fun p m => List.mem_cons_of_mem _ (by rw [vsVs]; exact m))⟩
      · cases hr
    · cases hr
  · cases hi
end
end Z
namespace Z
open PySem PySem.Spec PyProof.Rows L2
abbrev set0 (w : World) : Obj := { cls := .type "set", dict := none, data := .set #[] 0 (.fresh 0 0 (!w.params.followText "set-order")) }
abbrev hp0 (w : World) (s : Shared) : Heap := s.heap.push (set0 w)
section
variable {P : Program} {w : World} {A : Around} {E : Value → Shared → Prop} {s : Shared}
set_option maxHeartbeats 3200000 in
theorem call_setL {p : Addr} {us : Array Value} (ns : List Int) {Q : Value → Shared → Prop} (calm : A.handled = none) (pl : s.heap.IsList p us) (are : IntsAre us.toList ns) (few : ns.length + 1 < scanBound)
    (k5 : ∀ (h1 : Heap) (tk c : Nat), SetR w h1 s.heap.objs.size (fun j => decide (j ∈ ns)) c ∧ c ≤ ns.length → (∀ b o, s.heap.get? b = some o → h1.get? b = some o) → Q (.ref s.heap.objs.size) { s with heap := h1, toks := tk }) :
    wpAny (model P w) A (call (.type "set") [.ref p]) Q E s := by
  have size_us : us.size = ns.length := by rw [← Array.length_toList]; exact are.length
  obtain ⟨c, tl, m1⟩ := F.called_set.mro
  have m2 := F.called_set.made
  have m3 := F.called_set.sub
  refine wpAny_call (codeAny_of_tree ?_)
  show wpAny (model P w) _ (callAny (.type "set") _) _ _ s
  have still : ∀ as, (Code.builtin "type.__call__" as).quiet = true := fun as => Code.quiet_builtin as (by decide +kernel)
  refine wpAny_pure ⟨still _, codeAny_builtin F.entry_type_call ?_⟩
  have lite := Around.under_plain (A := A) (weight_type_call_type "set" [.ref p] []) rfl
  rw [lite]
  have m4 := F.called_set.notType
  have m5 := F.called_set.canCreate
  have m6 := F.typeCall_set_1 (.ref p)
  repeat (any_goals (first | assumption | wp_step))

  refine codeAny_mono (code_set_led1 (.ref p) (E := E) (Q₁ := fun x s1 => x = .ref s.heap.objs.size ∧ s1 = { s with heap := hp0 w s }) ⟨rfl, rfl⟩) fun r s1 hr => ?_
  rcases r with e | fl
  · exact hr
  cases fl with
  | ret x =>
    obtain ⟨ex, es⟩ := hr
    subst ex; subst es
    have at0 : (hp0 w s).get? s.heap.objs.size = some (set0 w) := Heap.get?_push_size _ rfl
    have ty0 : Shared.TypeIs { s with heap := hp0 w s } (.ref s.heap.objs.size) "set" := ⟨_, at0, rfl⟩
    have i1 := F.called_set.init.lookup
    have i2 := F.called_set.init.bind (.ref s.heap.objs.size)
    repeat (any_goals (first | assumption | wp_step))

    refine codeAny_mono (codeAny_call_builtin (R := wants (fun r s2 => r = .none ∧ ∃ h1 tk c, s2 = { s with heap := h1, toks := tk } ∧ (SetR w h1 s.heap.objs.size (fun j => decide (j ∈ ns)) c ∧ c ≤ ns.length) ∧ (∀ b o, s.heap.get? b = some o → h1.get? b = some o)) E)
      F.called_set.init.plain F.entry_set_init (check_set_init_1 ty0 ?_)) fun r2 s2 hr2 => ?_
    · obtain ⟨⟨oc, od, odt, osl⟩, gl, hcl, n0, hdl⟩ := pl
      simp only at hcl hdl
      subst hcl; subst hdl
      have gl1 : (hp0 w s).get? p = some { cls := .type "list", dict := od, data := .seq us n0, slots := osl } := Heap.get?_push_of_some _ gl
      have j1 := F.sub_list_set
      have j2 := F.sub_list_frozenset
      have j3 : (Value.type "list" == Value.type "dict") = false := by decide
      have pl1 : (hp0 w s).IsList p us := ⟨_, gl1, rfl, n0, rfl⟩
      unfold Builtin.«set.__init__» noKeywords Builtin.Frozenset.updateFrom
      generalize hI : pyIter = PI
      wp_walk
      subst hI
      refine wpAny_pyIter_list pl1 ?_
      refine wpAny_bind (wpAny_runValue ?_)
      have ltp : p < s.heap.objs.size := Heap.lt_size gl
      have calm3 : A.in1.in1.in1.handled = none := by simp [calm]
      have sz1 : (hp0 w s).objs.size = s.heap.objs.size + 1 := Heap.size_push ..
      have ne1 : p ≠ (hp0 w s).objs.size := by rw [sz1]; exact Nat.ne_of_lt (Nat.lt_succ_of_lt ltp)
      have out1 : s.heap.objs.size ∉ [(hp0 w s).objs.size, p] := by
        simp only [List.mem_cons, List.not_mem_nil, or_false, not_or]
        exact ⟨by rw [sz1]; exact Nat.ne_of_lt (Nat.lt_succ_self _), Nat.ne_of_gt ltp⟩
      have vals : ∀ (i : Nat) (v : Value), us[i]? = some v → ∃ k t, ns[i]? = some k ∧ v = .int k t := fun i v hv => by
        have hi : i < ns.length := by rw [← size_us]; exact (Array.getElem?_eq_some_iff.mp hv).1
        obtain ⟨t, e⟩ := are.int_at i v (by rw [Array.getElem?_toList]; exact hv)
        refine ⟨ns[i], t, List.getElem?_eq_getElem hi, ?_⟩
        rw [e, List.getD_eq_getElem?_getD, List.getElem?_eq_getElem hi, Option.getD_some]
      have first0 : ((hp0 w s).push { cls := .type "list_iterator", data := .fields #[.ref p, .int 0 0] }).get? s.heap.objs.size = some (set0 w) := Heap.get?_push_of_some _ at0
      refine set_update_ints ((Walks.list calm3 _ p ne1 us).toS) s.heap.objs.size out1 ns size_us few vals (us.size - 0) 0 _ (by omega) (Nat.zero_le _) ⟨⟨_, Heap.get?_push_size _ rfl, rfl, rfl⟩, pl1.push _⟩ ⟨0, Nat.le_refl 0, setR_new_at first0⟩ fun s3 c3 mv le3 R3 => ?_
      obtain ⟨h3, g3, d3, t3, o3⟩ := s3
      obtain rfl : g3 = s.gens := mv.gens
      obtain rfl : d3 = s.drawn := mv.drawn
      obtain rfl : o3 = s.os := mv.os
      show wpAny (model P w) _ _ _ _ _
      refine wpAny_pure ?_
      show wpAny (model P w) _ (ret Value.none) _ _ _
      refine wpAny_pure ⟨rfl, h3, t3, c3, rfl, ⟨R3, by rw [← size_us]; exact le3⟩, fun b o e => ?_⟩
      have b0 : b < s.heap.objs.size := Heap.lt_size e
      refine mv.heap b o ?_ (Heap.get?_push_of_some _ (Heap.get?_push_of_some _ e))
      simp only [List.mem_cons, List.not_mem_nil, or_false, not_or]
      exact ⟨Nat.ne_of_lt b0, by rw [sz1]; exact Nat.ne_of_lt (Nat.lt_succ_of_lt b0)⟩
    · rcases r2 with e | fl2
      · exact hr2
      cases fl2 with
      | ret r =>
        obtain ⟨e0, h1, tk, c1, e1, R1, kp⟩ := hr2
        subst e0; subst e1
        repeat (any_goals (first | assumption | wp_step))
        exact k5 _ _ _ R1 kp
      | _ => exact hr2.elim
  | _ => exact hr.elim
end
end Z
namespace Z
open PySem PySem.Spec L2
def insS (x : Int) : List Int → List Int
  | [] => [x]
  | y :: r => if x < y then x :: y :: r else if x = y then y :: r else y :: insS x r
def srtS (l : List Int) : List Int := l.foldr insS []
theorem mem_insS {x z : Int} : ∀ {l : List Int}, z ∈ insS x l ↔ z = x ∨ z ∈ l
  | [] => by simp [insS]
  | y :: r => by
    unfold insS
    split
    · simp
    · split
      · rename_i h; subst h; simp
      · simp only [List.mem_cons, mem_insS (l := r)]
        constructor
        · rintro (h | h | h)
          · exact .inr (.inl h)
          · exact .inl h
          · exact .inr (.inr h)
        · rintro (h | h | h)
          · exact .inr (.inl h)
          · exact .inl h
          · exact .inr (.inr h)
theorem mem_srtS {z : Int} : ∀ {l : List Int}, z ∈ srtS l ↔ z ∈ l
  | [] => by simp [srtS]
  | x :: r => by
    show z ∈ insS x (srtS r) ↔ _
    rw [mem_insS, mem_srtS (l := r), List.mem_cons]
theorem sorted_insS {x : Int} : ∀ {l : List Int}, l.Pairwise (· < ·) → (insS x l).Pairwise (· < ·)
  | [], _ => by simp [insS]
  | y :: r, h => by
    have h' := List.pairwise_cons.mp h
    unfold insS
    split
    · rename_i hx
      refine List.pairwise_cons.mpr ⟨fun z hz => ?_, h⟩
      rcases List.mem_cons.mp hz with e | hz
      · subst e; exact hx
      · exact Int.lt_trans hx (h'.1 z hz)
    · split
      · exact h
      · refine List.pairwise_cons.mpr ⟨fun z hz => ?_, sorted_insS h'.2⟩
        rcases mem_insS.mp hz with e | hz
        · subst e; omega
        · exact h'.1 z hz
theorem sorted_srtS : ∀ {l : List Int}, (srtS l).Pairwise (· < ·)
  | [] => List.Pairwise.nil
  | _ :: r => sorted_insS (sorted_srtS (l := r))
theorem sorted_uniq : ∀ {l m : List Int}, l.Pairwise (· < ·) → m.Pairwise (· < ·) → (∀ z, z ∈ l ↔ z ∈ m) → l = m
  | [], [], _, _, _ => rfl
  | [], y :: m, _, _, h => by have := (h y).mpr (by simp); simp at this
  | x :: l, [], _, _, h => by have := (h x).mp (by simp); simp at this
  | x :: l, y :: m, hl, hm, h => by
    have hl' := List.pairwise_cons.mp hl
    have hm' := List.pairwise_cons.mp hm
    have e : x = y := by
      rcases List.mem_cons.mp ((h x).mp (by simp)) with e | h1
      · exact e
      · rcases List.mem_cons.mp ((h y).mpr (by simp)) with e | h2
        · exact e.symm
        · have a := hm'.1 x h1
          have b := hl'.1 y h2
          omega
    subst e
    rw [sorted_uniq hl'.2 hm'.2 fun z => ?_]
    have hz := h z
    simp only [List.mem_cons] at hz
    constructor
    · intro q
      rcases hz.mp (.inr q) with e | q'
      · subst e; have := hl'.1 z q; omega
      · exact q'
    · intro q
      rcases hz.mpr (.inr q) with e | q'
      · subst e; have := hm'.1 z q; omega
      · exact q'
section
variable {X : Cx} {W : WX} {pu pv pw : Bool} {H H' : Hp} {Ex : List (Addr × HO)} {σ σ' : L2.St} {g : Gs} {T T' ws ws' rs : Roots} {e a b o lo hi : Expr} {es : List Expr} {m : M O} {ms : M (List O)} {pos p p2 apos : Pos} {k j np : Nat} {x : Str}
def rSetL (X : Cx) : List V → Hp → VK → Prop := fun xs H Q => ∃ (l : Addr) (ns : List Int), xs = [.ref l] ∧ SqL X.K H l (ns.map V.int) ∧ ns.length ≤ 1000 ∧ ∀ (q : Addr) (c : Nat), H q = none → c ≤ ns.length → Q (.ref q) (upd H q (SetO X.w q (fun j => decide (j ∈ ns)) c))
open PyProof.Rows in
theorem cr_setL (hc : X.calm = true) : CallR X (.type "set") (rSetL X) := by
  intro pins s σ H xs us Q I r h
  obtain ⟨l, ns, ex, hq, hl, k5⟩ := h
  subst ex
  obtain ⟨u, eu, rx⟩ := vals1 r
  subst eu
  cases rx
  obtain ⟨its, r', pl, hz⟩ := I.list hq
  refine call_setL ns (I.ok.hd hc) pl.isList (by simpa using ints_of_vals r') (by unfold scanBound; omega) fun h1 tk c R kp => ?_
  have fr := I.hok.fresh (Nat.le_refl s.heap.objs.size)
  exact ⟨.ref s.heap.objs.size, _, I.laid (t' := tk) kp (Nat.le_refl _) (setO_new R.1), rfl, k5 _ c fr R.2⟩
def srtF : List O → Option O
  | [a] => match (match asL a with | some ds => intsOf ds | none => none) with
    | some ns => if ns.length < 64 then some (.lst ((srtS ns).map fun i => O.d (.int i))) else none
    | none => none
  | _ => none
theorem ev_sortSet {q : Pos} (hc : X.calm = true) (hP : EvP X W pu a m) (hm : X.mg "sorted" = none) (hm2 : X.mg "set" = none) (hg : Gl X "sorted" := by rfl) (hg2 : Gl X "set" := by rfl)
    (hs1 : starEach [a] X.env = (false, eval a X.env) :: starEach [] X.env := by rfl) (hp1 : (backTo q (starEach [] X.env)).any (·.1) = false := by rfl)
    (hs2 : starEach [.Call (.Name "set" p2) [a] [] q] X.env = (false, eval (.Call (.Name "set" p2) [a] [] q) X.env) :: starEach [] X.env := by rfl) (hp2 : (backTo pos (starEach [] X.env)).any (·.1) = false := by rfl) :
    Ev X W pu (.Call (.Name "sorted" p) [.Call (.Name "set" p2) [a] [] q] [] pos) (opM srtF (consM m (M.ret []))) := by
  obtain ⟨t, h1, h2⟩ := hP.ex
  have bs : bootBuiltins "sorted" = some (.builtin "sorted") := by decide +kernel
  have bt : bootBuiltins "set" = some (.type "set") := by decide +kernel
  refine ⟨_, pe_callB (cr_sortedSet hc) hg hm bs (pa_cons (pe_callTy (cr_setL hc) hg2 hm2 bt (pa_cons h1 pa_nil hs1) (by decide) (by decide) hs1 hp1) pa_nil hs2) (by decide) (by decide) hs2 hp2, fun σ H Q g T Ex ws a0 w => ?_⟩
  refine h2 σ H _ g T Ex ws a0 ?_
  rw [wp_op, wp_cons] at w
  refine w.imp (fun o g' k5 v H' s a' => ?_) fun _ _ k5 => k5
  rw [wp_ret] at k5
  unfold srtF optW at k5
  simp only at k5
  split at k5
  · rename_i r hr
    split at hr
    · rename_i ns e1
      split at hr
      · rename_i hlt
        cases hr
        split at e1
        · rename_i ds e2
          obtain ⟨Hf, sm, hw, cl⟩ := a'.rel.fr
          obtain ⟨_, q1⟩ := hw _ List.mem_cons_self
          obtain ⟨ad, vs, e3, sq, pp⟩ := owL sm q1 e2
          simp only at e3
          subst e3
          obtain rfl := intsOf_ok e1 pp
          refine ⟨ad, ns, rfl, sq, by omega, fun q2 c hq2 hcl => ?_⟩
          refine ⟨q2, _, c, rfl, upd_same, by omega, fun ns' p3 srt mem len hp3 => ?_⟩
          obtain rfl : ns' = srtS ns := sorted_uniq srt sorted_srtS fun z => by rw [mem z, mem_srtS, decide_eq_true_eq]
          have s2 := sameNew hq2 (SetO X.w q2 (fun j => decide (j ∈ ns)) c)
          have r2 := a'.rel.same s2
          obtain ⟨Hf2, sm2, _, cl2⟩ := r2.fr
          have r3 := cl2 _ _ (dpInts (srtS ns))
          have r4 := r3.mkLst (by simp) hp3
          rw [List.map_map] at r4
          refine k5 _ _ (fun z => ?_) (.ofTop a'.fit (r4.views fun p m => List.mem_cons_of_mem _ m))
          obtain ⟨e4, e5⟩ := s z
          exact ⟨e4, (e5.trans s2).trans (sameNew hp3 _)⟩
        · cases e1
      · cases hr
    · cases hr
  · exact k5.elim
end
end Z
namespace Z
open PySem PySem.Spec L2
section
variable {X : Cx} {W : WX} {pu pv pw : Bool} {H H' : Hp} {Ex : List (Addr × HO)} {σ σ' : L2.St} {g : Gs} {T T' ws ws' rs : Roots} {e a b o lo hi : Expr} {es : List Expr} {m : M O} {ms : M (List O)} {pos p p2 apos : Pos} {k j np : Nat} {x : Str}
theorem At.extendAt {i : Nat} {os : List O} {ds : List PyData} {v y : V} {o : O} (a : At X H Ex σ g ((y, o) :: T) ws) (hg : g[i]? = some (some (.lst os))) (hv : σ[i]? = some (some v)) (e : asL o = some ds) :
    ∃ ad vs bd zs, v = .ref ad ∧ y = .ref bd ∧ H ad = some (.lst vs) ∧ H bd = some (.lst zs) ∧ vs.length = os.length ∧ zs.length = ds.length ∧ At X (upd H ad (.lst (vs ++ zs))) Ex σ (g.set i (some (.lst (os ++ ds.map O.d)))) T [] := by
  have r0 := (a.get hg hv).noviews
  have ry := a.top.toView
  obtain ⟨Hf, s, hw, cl⟩ := a.toView.rel.fr
  obtain ⟨_, h1⟩ := hw _ List.mem_cons_self
  obtain ⟨bd, zs, rfl, hb, hd⟩ := owLT s h1 e
  have c1 : At X H Ex σ g (zs.zip (ds.map O.d) ++ T) [] := by
    have r := (cl _ _ hd).noviews
    exact ⟨a.fit, r.perm (by
      rw [← List.append_assoc, ← List.append_assoc]
      exact List.perm_append_comm.append_right _)⟩
  have r := (c1.get hg hv).noviews
  obtain ⟨ad, ho, vs, os1, e1, e2, p, hl, r2⟩ := r.opn rfl
  cases p
  have hz := dpLen hd
  refine ⟨ad, vs, bd, zs, e1, rfl, e2, hb, hl, hz, ?_⟩
  subst e1
  refine .put a.fit hv (((r2.write (.lst (vs ++ zs))).perm ?_).shut (.lst (os := os ++ ds.map O.d)) (by simp [hl, hz]))
  rw [List.zip_append hl, List.append_assoc]
  refine List.Perm.append_left _ ?_
  rw [← List.append_assoc, ← List.append_assoc]
  exact List.perm_append_comm.append_right _
def extM (i : Nat) (m : M O) : M O := M.bd m fun o g => match g[i]? with
  | some (some (.lst os)) => match asL o with
    | some ds => if os.length + ds.length ≤ 16777216 then .ok (.d .none) (g.set i (some (.lst (os ++ ds.map O.d)))) else .bad
    | none => .bad
  | _ => .bad
def extLM (i : Nat) (m : M O) : M O := fun g => match g[i]? with
  | some (some (.lst _)) => extM i m g
  | _ => .bad
theorem ev_ext (i : Nat) {xn : Str} {ap pp : Pos} (h : Ev X W pu a m) (hN : X.N[i]? = some xn := by rfl) (hv : Vis X.env.scope xn := by first | exact Or.inl rfl | exact Or.inr (Or.inl rfl) | exact Or.inr (Or.inr rfl)) (hdd1 : (xn == ("__debug__" : Str)) = false := by decide) (hcd : (xn == ("__classdict__" : Str)) = false := by decide)
    (hbase : attributeBase (.Name xn pp) "extend" X.env (eval (.Name xn pp) X.env) = eval (.Name xn pp) X.env := by rfl)
    (hfew : ((backTo pos (starEach [a] X.env)).all (fun x => !x.1) && (backToKw pos (keywordEach [] X.env)).all (fun x => x.1.isSome)
      && decide ([a].length + ([] : List Keyword).length + (if ([] : List Keyword).isEmpty then 0 else 1) < 30)) = true := by rfl)
    (hline : (ap.endLine == pos.line) = true := by rfl) (hst : starEach [a] X.env = (false, eval a X.env) :: starEach [] X.env := by rfl) (hplain : (backTo pos (starEach [] X.env)).any (·.1) = false := by rfl) :
    Ev X W false (.Call (.Attribute (.Name xn pp) "extend" ap) [a] [] pos) (extLM i m) := by
  obtain ⟨t, h1, h2⟩ := h.ex
  refine ⟨_, pe_bm PySem.F.plainAttrs_list PySem.F.slot_list_extend PySem.F.type_list_extend mt_extend (pv i hN hv hdd1 hcd) (pa_cons h1 pa_nil hst) hbase hfew hline hst hplain, fun σ H Q g T Ex ws at0 w => ?_⟩
  unfold extLM at w
  split at w
  · rename_i os0 hg0
    obtain ⟨v, hv⟩ := at0.fit.at_ _ _ hg0
    have r0 := (at0.get hg0 hv).noviews
    obtain ⟨ad0, ho0, vs0, os1, e1, e2, p, hl, r2⟩ := r0.opn rfl
    cases p
    subst e1
    refine ⟨_, hv, .inl ⟨rfl, _, SqL.of e2⟩, ?_⟩
    refine h2 σ H _ g T Ex ws at0 (w.bd.imp (fun o g' kk y H' s a' => ?_) fun _ _ kk => kk)
    split at kk
    · rename_i os hg
      split at kk
      · rename_i ds e
        split at kk
        · rename_i hlen
          obtain ⟨ad, vs, bd, zs, e3, e4, q1, q2, l1, l2, a3⟩ := a'.extendAt hg hv e
          cases e3
          subst e4
          exact ⟨ad0, bd, vs, zs, rfl, rfl, q1, q2, by rw [l1, l2, sizeLine_eq]; exact hlen, kk _ _ (fun z => by cases z) (a3.data fun _ => .non)⟩
        · exact kk.elim
      · exact kk.elim
    · exact kk.elim
  · exact w.elim
end
end Z
namespace Z
open PySem PySem.Spec L2
section
variable {A : O → Gs → Prop} {AO : O → Prop} {B : Exn → Gs → Prop} {g g' : Gs} {m n : M O} {i k : Nat} {o : O} {os : List O} {x y : Int} {s t : Str} {ds : List PyData}
theorem z_pop (h : g[i]? = some (some (.lst os))) (h2 : os[os.length - 1]? = some o) (e : g.set i (some (.lst os.dropLast)) = g') (q : A o g') : Wp (pop0M i g) A B := by
  subst e
  unfold pop0M
  rw [h]
  simp only [h2]
  exact q
theorem z_popAt (h : g[i]? = some (some (.lst os))) (q : Wp (m g) (fun oi g1 => match oi with
    | .d (.int x) => ∃ os1 j o, g1[i]? = some (some (.lst os1)) ∧ (-9223372036854775808 ≤ x ∧ x < 9223372036854775808) ∧ seqIndex? x os1.length = some j ∧ os1[j]? = some o ∧ A o (g1.set i (some (.lst (os1.eraseIdx j))))
    | _ => False) B) : Wp (popLM i m g) A B := by
  unfold popLM
  rw [h]
  simp only [popIM]
  refine (wp_bd (m := m)).mpr (q.mono (fun oi g1 z => ?_) fun _ _ z => z)
  refine (wp_bd (m := asI oi)).mpr ?_
  rw [wp_asI]
  split at z
  · obtain ⟨os1, j, o, e1, ⟨b1, b2⟩, e2, e3, z⟩ := z
    simp only [e1, e2, e3, b1, b2, decide_true, Bool.and_self, if_true]
    exact z
  · exact z.elim
theorem z_ext (h : g[i]? = some (some (.lst os))) (q : Wp (m g) (fun o g1 => ∃ os1 ds, g1[i]? = some (some (.lst os1)) ∧ asL o = some ds ∧ os1.length + ds.length ≤ 16777216 ∧ A (.d .none) (g1.set i (some (.lst (os1 ++ ds.map O.d))))) B) : Wp (extLM i m g) A B := by
  unfold extLM
  rw [h]
  simp only [extM]
  refine (wp_bd (m := m)).mpr (q.mono (fun o g1 z => ?_) fun _ _ z => z)
  obtain ⟨os1, ds, e1, e2, e3, z⟩ := z
  simp only [e1, e2, e3, if_true]
  exact z
theorem z_app (h : g[i]? = some (some (.lst os))) (q : Wp (m g) (fun o g1 => ∃ os1, g1[i]? = some (some (.lst os1)) ∧ os1.length < 16777216 ∧ A (.d .none) (g1.set i (some (.lst (os1 ++ [o]))))) B) : Wp (appLM i m g) A B := by
  rw [wp_app, h]
  refine q.mono (fun o g1 z => ?_) fun _ _ z => z
  obtain ⟨os1, e1, e2, z⟩ := z
  rw [e1]
  exact ⟨e2, z⟩
theorem z_timI (h : mulC x y = true := by first | exact mulC_l | exact mulC_r) (q : AO (.d (.int (x * y)))) : optW (timF [.d (.int x), .d (.int y)]) AO := by
  have e : timF [.d (.int x), .d (.int y)] = some (.d (.int (x * y))) := by simp [timF, h]
  rw [e]; exact q
theorem z_timL (ha : asL o = some ds) (hs : ∀ x, o ≠ .d x ∨ ∃ l, o = .d (.list l)) (h0 : -9223372036854775808 ≤ y) (h1 : y < 9223372036854775808) (hl : ds.length * y.toNat ≤ 16777216) (q : AO (.lst ((List.replicate y.toNat ds).flatten.map O.d))) : optW (timF [o, .d (.int y)]) AO := by
  have e : timF [o, .d (.int y)] = some (.lst ((List.replicate y.toNat ds).flatten.map O.d)) := by
    have h2 := lenOk_of hl
    cases o with
    | d x => cases x <;> first | (simp [asL] at ha; done) | simp [timF, ha, h0, h1, h2]
    | lst xs => simp [timF, ha, h0, h1, h2]
    | _ => simp [asL] at ha
  rw [e]; exact q
theorem wp_idx : Wp (idxM m n g) A B = Wp (m g) (fun o g1 => optW (ixdOf o) fun i => Wp (n g1) (fun x g2 => optW (idxV i x) fun r => A r g2) B) B := by
  unfold idxM
  refine (wp_bd (m := m)).trans (congrArg (fun Z => Wp (m g) Z B) ?_)
  funext o g1
  refine (wp_bd (m := optG (ixdOf o))).trans ?_
  cases ixdOf o with
  | none => rfl
  | some i =>
    show Wp (M.bd n (fun x => optM (idxV i x)) g1) A B = _
    rw [wp_bd, optW_some]
    refine congrArg (fun Z => Wp (n g1) Z B) ?_
    funext x g2
    exact wp_opt
end
end Z
namespace G
open PySem PySem.Spec L2 Z
inductive Tst where
  | yes | no
  | ask (q : Str)
  | not (t : Tst)
  | and (a b : Tst)
  | or (a b : Tst)
inductive Err where
  | done
  | doo (p : Str)
  | often (e : Err)
  | whl (t : Tst) (e : Err)
  | thn (a b : Err)
  | iff (t : Tst) (a b : Err)
  | eth (a b : Err)
def Tst.d : Tst → PyData
  | .yes => .tuple [.str "yes"]
  | .no => .tuple [.str "no"]
  | .ask q => .tuple [.str "ask", .str q]
  | .not t => .tuple [.str "not", t.d]
  | .and a b => .tuple [.str "and", a.d, b.d]
  | .or a b => .tuple [.str "or", a.d, b.d]
def Err.d : Err → PyData
  | .done => .tuple [.str "done"]
  | .doo p => .tuple [.str "do", .str p]
  | .often e => .tuple [.str "often", e.d]
  | .whl t e => .tuple [.str "while", t.d, e.d]
  | .thn a b => .tuple [.str "then", a.d, b.d]
  | .iff t a b => .tuple [.str "if", t.d, a.d, b.d]
  | .eth a b => .tuple [.str "either", a.d, b.d]
def Tst.size : Tst → Nat
  | .not t => 1 + t.size
  | .and a b => 1 + a.size + b.size
  | .or a b => 1 + a.size + b.size
  | _ => 1
def Tst.deep : Tst → Nat
  | .not t => 1 + t.deep
  | .and a b => 1 + max a.deep b.deep
  | .or a b => 1 + max a.deep b.deep
  | _ => 1
def Err.size : Err → Nat
  | .often e => 1 + e.size
  | .whl _ e => 1 + e.size
  | .thn a b => 1 + a.size + b.size
  | .iff _ a b => 1 + a.size + b.size
  | .eth a b => 1 + a.size + b.size
  | _ => 1
def Err.deep : Err → Nat
  | .often e => 1 + e.deep
  | .whl _ e => 1 + e.deep
  | .thn a b => 1 + max a.deep b.deep
  | .iff _ a b => 1 + max a.deep b.deep
  | .eth a b => 1 + max a.deep b.deep
  | _ => 1
end G
namespace G
open PySem PySem.Spec L2 Z
def g_inner_tests : M Fl := (seqM (ifM (tstM (opM (inF false) (consM (opM ixF (consM (pkM 0) (consM (dM (.int 0)) (M.ret [])))) (consM (tupM (consM (dM (.str "yes")) (consM (dM (.str "no")) (consM (dM (.str "ask")) (M.ret []))))) (M.ret []))))) (retM (tupM (M.ret []))) (M.ret .next))
  (retM (opM (slF true false) (consM (pkM 0) (consM (dM (.int 1)) (M.ret []))))))
def f_inner_tests : Fn := runF 1 1 1 g_inner_tests
def g_inner_errands : M Fl := (seqM (ifM (tstM (opM (inF false) (consM (opM ixF (consM (pkM 0) (consM (dM (.int 0)) (M.ret [])))) (consM (tupM (consM (dM (.str "done")) (consM (dM (.str "do")) (M.ret [])))) (M.ret []))))) (retM (tupM (M.ret []))) (M.ret .next))
  (seqM (ifM (tstM (opM (inF false) (consM (opM ixF (consM (pkM 0) (consM (dM (.int 0)) (M.ret [])))) (consM (tupM (consM (dM (.str "if")) (consM (dM (.str "while")) (M.ret [])))) (M.ret []))))) (retM (opM (slF true false) (consM (pkM 0) (consM (dM (.int 2)) (M.ret []))))) (M.ret .next))
  (retM (opM (slF true false) (consM (pkM 0) (consM (dM (.int 1)) (M.ret [])))))))
def f_inner_errands : Fn := runF 1 1 1 g_inner_errands
def g_law_box : M Fl := (seqM (asgM (opM addF (consM (opM mulF (consM (dM (.int 7919)) (consM (pkM 1) (M.ret [])))) (consM (dM (.int 11)) (M.ret [])))) (setM 2))
  (seqM (ifM (tstM (opM ltF (consM (pkM 1) (consM (opM lenF (consM (pkM 0) (M.ret []))) (M.ret []))))) (asgM (opM ixF (consM (pkM 0) (consM (pkM 1) (M.ret [])))) (setM 2)) (ifM (tstM (opM gtF (consM (opM lenF (consM (pkM 0) (M.ret []))) (consM (dM (.int 0)) (M.ret []))))) (asgM (opM addF (consM (pkM 2) (consM (opM mulF (consM (opM modF (consM (opM ixF (consM (pkM 0) (consM (opM modF (consM (pkM 1) (consM (opM lenF (consM (pkM 0) (M.ret []))) (M.ret [])))) (M.ret [])))) (consM (dM (.int 2147483629)) (M.ret [])))) (consM (dM (.int 69623)) (M.ret [])))) (M.ret [])))) (setM 2)) (M.ret .next)))
  (seqM (asgM (opM addF (consM (opM modF (consM (opM addF (consM (opM mulF (consM (opM modF (consM (pkM 2) (consM (dM (.int 2147483629)) (M.ret [])))) (consM (dM (.int 48271)) (M.ret [])))) (consM (opM mulF (consM (dM (.int 40692)) (consM (pkM 1) (M.ret [])))) (M.ret [])))) (consM (dM (.int 2147483629)) (M.ret [])))) (consM (dM (.int 1)) (M.ret [])))) (setM 3))
  (seqM (ifM (tstM (opM ltF (consM (pkM 2) (consM (opM powF (consM (dM (.int 10)) (consM (dM (.int 18)) (M.ret [])))) (M.ret []))))) (asgM (dM (.int 0)) (setM 2)) (M.ret .next))
  (retM (lstM (consM (fzM 2) (consM (fzM 3) (M.ret [])))))))))
def f_law_box : Fn := runF 2 2 4 g_law_box
def g_law_take : M Fl := (seqM (ifM (tstM (opM gtF (consM (opM ixF (consM (pkM 0) (consM (dM (.int 0)) (M.ret [])))) (consM (dM (.int 0)) (M.ret []))))) (seqM (asgM (opM modF (consM (opM ixF (consM (pkM 0) (consM (dM (.int 0)) (M.ret [])))) (consM (pkM 1) (M.ret [])))) (setM 2))
  (seqM (asgM (opM divF (consM (opM ixF (consM (pkM 0) (consM (dM (.int 0)) (M.ret [])))) (consM (pkM 1) (M.ret [])))) (ixSetM 0 (dM (.int 0))))
  (retM (mvM 2)))) (M.ret .next))
  (seqM (asgM (opM modF (consM (opM mulF (consM (opM ixF (consM (pkM 0) (consM (dM (.int 1)) (M.ret [])))) (consM (dM (.int 69623)) (M.ret [])))) (consM (dM (.int 2147483647)) (M.ret [])))) (setM 3))
  (seqM (asgM (opM addF (consM (opM modF (consM (opM addF (consM (opM mulF (consM (pkM 3) (consM (dM (.int 48271)) (M.ret [])))) (consM (dM (.int 30103)) (M.ret [])))) (consM (dM (.int 2147483629)) (M.ret [])))) (consM (dM (.int 1)) (M.ret [])))) (ixSetM 0 (dM (.int 1))))
  (retM (opM modF (consM (opM divF (consM (opM addF (consM (opM mulF (consM (pkM 3) (consM (dM (.int 2147483647)) (M.ret [])))) (consM (opM ixF (consM (pkM 0) (consM (dM (.int 1)) (M.ret [])))) (M.ret [])))) (consM (dM (.int 8191)) (M.ret [])))) (consM (pkM 1) (M.ret []))))))))
def f_law_take : Fn := runF 2 2 4 g_law_take
def g_law_taken : M Fl := (seqM (asgM (lstM (consM (dM (.str "yes")) (consM (dM (.str "no")) (consM (dM (.str "not")) (consM (dM (.str "and")) (consM (dM (.str "or")) (consM (dM (.str "done")) (consM (dM (.str "then")) (consM (dM (.str "if")) (consM (dM (.str "while")) (consM (dM (.str "either")) (consM (dM (.str "often")) (consM (dM (.str "asks")) (consM (dM (.str "deeds")) (M.ret []))))))))))))))) (setM 0))
  (retM (opM addF (consM (pkM 0) (consM (lstM (consM (dM (.str "keeps")) (consM (dM (.str "makes")) (consM (dM (.str "rests")) (consM (dM (.str "idles")) (consM (dM (.str "still")) (consM (dM (.str "never")) (M.ret [])))))))) (M.ret []))))))
def f_law_taken : Fn := runF 0 0 1 g_law_taken
def g_law_name : M Fl := (seqM (asgM (dM (.str "abcdefghijklmnopqrstuvwxyz")) (setM 1))
  (seqM (asgM (joinM (dM (.str "")) (compM [6] (M.bd (consM (opM addF (consM (dM (.int 1)) (consM (callM f_law_take [] (slIn 0 (valA (dM (.int 5)) (M.ret [])))) (M.ret [])))) (M.ret [])) rng1M) (setM 6) yesM (opM ixF (consM (fzM 1) (consM (callM f_law_take [] (slIn 0 (valA (dM (.int 26)) (M.ret [])))) (M.ret [])))))) (setM 2))
  (seqM (ifM (tstM (opM eqF (consM (callM f_law_take [] (slIn 0 (valA (dM (.int 4)) (M.ret [])))) (consM (dM (.int 0)) (M.ret []))))) (seqM (asgM (opM ixF (consM (callM f_law_taken [] (M.ret [])) (consM (callM f_law_take [] (slIn 0 (valA (dM (.int 19)) (M.ret [])))) (M.ret [])))) (setM 3))
  (seqM (asgM (callM f_law_take [] (slIn 0 (valA (opM addF (consM (opM lenF (consM (pkM 3) (M.ret []))) (consM (dM (.int 1)) (M.ret [])))) (M.ret [])))) (setM 4))
  (seqM (asgM (lstM (consM (opM addF (consM (opM (slF false true) (consM (pkM 3) (consM (pkM 4) (M.ret [])))) (consM (opM (slF true false) (consM (pkM 3) (consM (opM addF (consM (pkM 4) (consM (dM (.int 1)) (M.ret [])))) (M.ret [])))) (M.ret [])))) (consM (opM addF (consM (opM addF (consM (opM (slF false true) (consM (pkM 3) (consM (pkM 4) (M.ret [])))) (consM (opM ixF (consM (pkM 2) (consM (dM (.int 0)) (M.ret [])))) (M.ret [])))) (consM (opM (slF true false) (consM (pkM 3) (consM (pkM 4) (M.ret [])))) (M.ret [])))) (consM (opM addF (consM (opM addF (consM (opM (slF false true) (consM (pkM 3) (consM (pkM 4) (M.ret [])))) (consM (opM ixF (consM (pkM 2) (consM (dM (.int 0)) (M.ret [])))) (M.ret [])))) (consM (opM (slF true false) (consM (pkM 3) (consM (opM addF (consM (pkM 4) (consM (dM (.int 1)) (M.ret [])))) (M.ret [])))) (M.ret [])))) (M.ret []))))) (setM 5))
  (asgM (opM (slF false true) (consM (opM ixF (consM (fzM 5) (consM (callM f_law_take [] (slIn 0 (valA (dM (.int 3)) (M.ret [])))) (M.ret [])))) (consM (dM (.int 5)) (M.ret [])))) (setM 2))))) (M.ret .next))
  (seqM (ifM (tstM (opM eqF (consM (callM f_law_take [] (slIn 0 (valA (dM (.int 12)) (M.ret [])))) (consM (dM (.int 0)) (M.ret []))))) (asgM (opM ixF (consM (lstM (consM (dM (.str "do")) (consM (dM (.str "ask")) (M.ret [])))) (consM (callM f_law_take [] (slIn 0 (valA (dM (.int 2)) (M.ret [])))) (M.ret [])))) (setM 2)) (M.ret .next))
  (seqM (ifM (orZ (tstM (opM eqF (consM (pkM 2) (consM (dM (.str "")) (M.ret []))))) (tstM (opM (inF false) (consM (fzM 2) (consM (callM f_law_taken [] (M.ret [])) (M.ret [])))))) (asgM (dM (.str "q")) (setM 2)) (M.ret .next))
  (retM (mvM 2)))))))
def f_law_name : Fn := runF 1 1 7 g_law_name
end G
namespace Z
open PySem PySem.Spec L2
class Stp (P : Prop) (Q : outParam Prop) : Prop where
  go : Q → P
/-- a side condition ahead of what is left -/
structure Sd (P Q : Prop) : Prop where
  mk ::
  l : P
  r : Q
class Get (g : Gs) (i : Nat) (o : outParam (Option O)) : Prop where
  get : g[i]? = some o
instance get0 {x : Option O} {g : Gs} : Get (x :: g) 0 x := ⟨rfl⟩
instance getS {x : Option O} {g : Gs} {n : Nat} {o : Option O} [h : Get g n o] : Get (x :: g) (n + 1) o := ⟨by rw [List.getElem?_cons_succ]; exact h.get⟩
class Put (g : Gs) (i : Nat) (o : Option O) (g' : outParam Gs) : Prop where
  put : g.set i o = g'
instance put0 {x o : Option O} {g : Gs} : Put (x :: g) 0 o (o :: g) := ⟨rfl⟩
instance putS {x o : Option O} {g g' : Gs} {n : Nat} [h : Put g n o g'] : Put (x :: g) (n + 1) o (x :: g') := ⟨by rw [List.set_cons_succ, h.put]⟩
class WipC (g : Gs) (vs : List Nat) (g' : outParam Gs) : Prop where
  eq : wipeG g vs = g'
instance wip0 {g : Gs} : WipC g [] g := ⟨rfl⟩
instance wipS {g g1 g2 : Gs} {v : Nat} {vs : List Nat} [h : WipC g vs g1] [p : Put g1 v none g2] : WipC g (v :: vs) g2 := ⟨by rw [wipeG, h.eq, p.put]⟩
class RstC (g1 : Gs) (vs : List Nat) (g3 : Gs) (g' : outParam Gs) : Prop where
  eq : restG g1 vs g3 = g'
instance rst0 {g1 g3 : Gs} : RstC g1 [] g3 g3 := ⟨rfl⟩
instance rstS {g1 g3 g4 w g' : Gs} {v : Nat} {vs : List Nat} {o : Option O} [h : WipC g1 vs w] [t : Get w v o] [p : Put g3 v o g4] [r : RstC g1 vs g4 g'] : RstC g1 (v :: vs) g3 g' :=
  ⟨by rw [restG, h.eq, t.get, Option.getD_some, p.put, r.eq]⟩
class AppC {α : Type} (a b : List α) (c : outParam (List α)) : Prop where
  eq : a ++ b = c
instance app0 {α : Type} {b : List α} : AppC [] b b := ⟨rfl⟩
instance appS {α : Type} {x : α} {a b c : List α} [h : AppC a b c] : AppC (x :: a) b (x :: c) := ⟨by rw [List.cons_append, h.eq]⟩
instance (priority := 50) appF {α : Type} {a b : List α} : AppC a b (a ++ b) := ⟨rfl⟩
/-- data as owned things -/
class MpC (ds : List PyData) (os : outParam (List O)) : Prop where
  eq : ds.map O.d = os
instance mp0 : MpC [] [] := ⟨rfl⟩
instance mpS {x : PyData} {ds : List PyData} {os : List O} [h : MpC ds os] : MpC (x :: ds) (.d x :: os) := ⟨by rw [List.map_cons, h.eq]⟩
instance (priority := 50) mpF {ds : List PyData} : MpC ds (ds.map O.d) := ⟨rfl⟩
class LenC {α : Type} (a : List α) (n : outParam Nat) : Prop where
  eq : a.length = n
instance len0 {α : Type} : LenC ([] : List α) 0 := ⟨rfl⟩
instance lenS {α : Type} {x : α} {a : List α} {n : Nat} [h : LenC a n] : LenC (x :: a) (n + 1) := ⟨by rw [List.length_cons, h.eq]⟩
class SmC {α : Type} (a : List α) : Prop where
  ok : lenOk a.length = true
instance sm0 {α : Type} : SmC ([] : List α) := ⟨rfl⟩
instance sm1 {α : Type} {a : α} : SmC [a] := ⟨rfl⟩
instance sm2 {α : Type} {a b : α} : SmC [a, b] := ⟨rfl⟩
instance sm3 {α : Type} {a b c : α} : SmC [a, b, c] := ⟨rfl⟩
instance sm4 {α : Type} {a b c d : α} : SmC [a, b, c, d] := ⟨rfl⟩
instance sm5 {α : Type} {a b c d e : α} : SmC [a, b, c, d, e] := ⟨rfl⟩
instance sm6 {α : Type} {a b c d e f : α} : SmC [a, b, c, d, e, f] := ⟨rfl⟩
instance sm7 {α : Type} {a b c d e f x : α} : SmC [a, b, c, d, e, f, x] := ⟨rfl⟩
instance sm13 {α : Type} {a b c d e f x h i j k l m : α} : SmC [a, b, c, d, e, f, x, h, i, j, k, l, m] := ⟨rfl⟩
/-- all data -/
class AllC (os : List O) (ds : outParam (List PyData)) : Prop where
  eq : allD os = some ds
instance all0 : AllC [] [] := ⟨rfl⟩
instance allS {x : PyData} {os : List O} {ds : List PyData} [h : AllC os ds] : AllC (.d x :: os) (x :: ds) := ⟨by rw [allD, h.eq]⟩
instance allM {ds : List PyData} : AllC (ds.map O.d) ds := ⟨allD_map ds⟩
class NoC (os : List O) : Prop where
  eq : allD os = none
instance noS {x : PyData} {os : List O} [h : NoC os] : NoC (.d x :: os) := ⟨by rw [allD, h.eq]⟩
instance no1 {x : List O} {os : List O} : NoC (.lst x :: os) := ⟨rfl⟩
instance no2 {x : List O} {os : List O} : NoC (.tup x :: os) := ⟨rfl⟩
instance no3 {x : List (Key × O)} {os : List O} : NoC (.dK x :: os) := ⟨rfl⟩
instance no4 {x : List (List Key × O)} {os : List O} : NoC (.dT x :: os) := ⟨rfl⟩
class TupC (os : List O) (o : outParam O) : Prop where
  eq : mkTup os = o
instance tupA {os : List O} {ds : List PyData} [h : AllC os ds] : TupC os (.d (.tuple ds)) := ⟨by rw [mkTup, h.eq]⟩
instance tupN {os : List O} [h : NoC os] : TupC os (.tup os) := ⟨by rw [mkTup, h.eq]⟩
/-- what may be frozen -/
class IdxC (ds : List PyData) : Prop where
  eq : idxS ds = false
instance idx0 : IdxC [] := ⟨rfl⟩
instance idx1 {x : List PyData} {ds : List PyData} : IdxC (.list x :: ds) := ⟨by simp [idxS]⟩
instance idx2 {x : List PyData} {ds : List PyData} : IdxC (.tuple x :: ds) := ⟨by simp [idxS]⟩
instance idx3 {x : Int} {ds : List PyData} : IdxC (.int x :: ds) := ⟨by simp [idxS]⟩
instance idx4 {x : Bool} {ds : List PyData} : IdxC (.bool x :: ds) := ⟨by simp [idxS]⟩
instance idxSS {x y : PyData} {ds : List PyData} [h : IdxC (y :: ds)] : IdxC (x :: y :: ds) := ⟨by
  have := h.eq
  simp only [idxS, List.isEmpty_cons, Bool.not_false, Bool.true_and] at this ⊢
  rw [List.all_cons, this, Bool.and_false]⟩
mutual
class FzC (o : O) (x : outParam PyData) : Prop where
  eq : o.fz = some x
end
class FzL (os : List O) (ds : outParam (List PyData)) : Prop where
  eq : O.fzL os = some ds
theorem fzLd : ∀ ds : List PyData, O.fzL (ds.map O.d) = some ds
  | [] => rfl
  | x :: r => by simp [O.fzL, O.fz, fzLd r]
instance fz0 {x : PyData} : FzC (.d x) x := ⟨rfl⟩
instance fz1 {os : List O} {ds : List PyData} [h : FzL os ds] : FzC (.lst os) (.list ds) := ⟨by rw [O.fz, h.eq]⟩
instance fz2 {os : List O} {ds : List PyData} [h : FzL os ds] [i : IdxC ds] : FzC (.tup os) (.tuple ds) := ⟨by rw [O.fz, h.eq]; simp only [i.eq]; rfl⟩
instance fl0 : FzL [] [] := ⟨rfl⟩
instance flS {o : O} {x : PyData} {os : List O} {ds : List PyData} [a : FzC o x] [h : FzL os ds] : FzL (o :: os) (x :: ds) := ⟨by rw [O.fzL, a.eq, h.eq]⟩
instance flM {ds : List PyData} : FzL (ds.map O.d) ds := ⟨fzLd ds⟩
/-- data in a row -/
class LtC (o : O) (ds : outParam (List PyData)) : Prop where
  eq : asLT o = some ds
instance lt1 {ds : List PyData} : LtC (.d (.list ds)) ds := ⟨rfl⟩
instance lt2 {ds : List PyData} : LtC (.d (.tuple ds)) ds := ⟨rfl⟩
instance lt3 {ds : List PyData} : LtC (.gL ds) ds := ⟨rfl⟩
instance lt4 {ds : List PyData} : LtC (.gT ds) ds := ⟨rfl⟩
instance lt5 {os : List O} {ds : List PyData} [h : AllC os ds] : LtC (.lst os) ds := ⟨asLT_d h.eq⟩
class LsC (o : O) (ds : outParam (List PyData)) : Prop where
  eq : asL o = some ds
instance ls1 {ds : List PyData} : LsC (.d (.list ds)) ds := ⟨rfl⟩
instance ls5 {os : List O} {ds : List PyData} [h : AllC os ds] : LsC (.lst os) ds := ⟨by rw [asL, h.eq]⟩
class NthC (ds : List PyData) (i : Int) (x : outParam PyData) : Prop where
  eq : atI ds i = some x
theorem atI_lit {ds : List PyData} {n : Nat} {x : PyData} (h : ds[n]? = some x) : atI ds (n : Int) = some x := by
  have hl := (List.getElem?_eq_some_iff.mp h).1
  unfold atI ixN
  rw [if_pos (by omega), if_pos (by omega)]
  simp [h]
instance nth0 {a : PyData} {r : List PyData} : NthC (a :: r) 0 a := ⟨atI_lit (n := 0) rfl⟩
instance nth1 {a b : PyData} {r : List PyData} : NthC (a :: b :: r) 1 b := ⟨atI_lit (n := 1) rfl⟩
instance nth2 {a b c : PyData} {r : List PyData} : NthC (a :: b :: c :: r) 2 c := ⟨atI_lit (n := 2) rfl⟩
instance nth3 {a b c d : PyData} {r : List PyData} : NthC (a :: b :: c :: d :: r) 3 d := ⟨atI_lit (n := 3) rfl⟩
instance nthL1 {a : PyData} : NthC [a] (-1) a := ⟨rfl⟩
instance nthL2 {a b : PyData} : NthC [a, b] (-1) b := ⟨rfl⟩
instance nthL3 {a b c : PyData} : NthC [a, b, c] (-1) c := ⟨rfl⟩
instance nthL4 {a b c d : PyData} : NthC [a, b, c, d] (-1) d := ⟨rfl⟩
class StsC (ds : List PyData) (ss : outParam (List Str)) : Prop where
  eq : ds = ss.map PyData.str
instance sts0 : StsC [] [] := ⟨rfl⟩
instance stsS {s : Str} {ds : List PyData} {ss : List Str} [h : StsC ds ss] : StsC (.str s :: ds) (s :: ss) := ⟨by rw [List.map_cons, ← h.eq]⟩
instance stsM {ss : List Str} : StsC (ss.map PyData.str) ss := ⟨rfl⟩
class ItsC (ds : List PyData) (ss : outParam (List Int)) : Prop where
  eq : ds = ss.map PyData.int
instance its0 : ItsC [] [] := ⟨rfl⟩
instance itsS {s : Int} {ds : List PyData} {ss : List Int} [h : ItsC ds ss] : ItsC (.int s :: ds) (s :: ss) := ⟨by rw [List.map_cons, ← h.eq]⟩
instance itsM {ss : List Int} : ItsC (ss.map PyData.int) ss := ⟨rfl⟩
class BlsC (ds : List PyData) (ss : outParam (List Bool)) : Prop where
  eq : ds = ss.map PyData.bool
instance bls0 : BlsC [] [] := ⟨rfl⟩
instance blsS {s : Bool} {ds : List PyData} {ss : List Bool} [h : BlsC ds ss] : BlsC (.bool s :: ds) (s :: ss) := ⟨by rw [List.map_cons, ← h.eq]⟩
instance blsM {ss : List Bool} : BlsC (ss.map PyData.bool) ss := ⟨rfl⟩
theorem blsOf_map : ∀ ss : List Bool, blsOf (ss.map PyData.bool) = some ss
  | [] => rfl
  | x :: r => by simp [blsOf, blsOf_map r]
theorem intsOf_map : ∀ ss : List Int, intsOf (ss.map PyData.int) = some ss
  | [] => rfl
  | x :: r => by simp [intsOf, intsOf_map r]
theorem strsOf_map : ∀ ss : List Str, strsOf (ss.map PyData.str) = some ss
  | [] => rfl
  | x :: r => by simp [strsOf, strsOf_map r]
def SeqK (b : M Fl) (A : Fl → Gs → Prop) (B : Exn → Gs → Prop) : Fl → Gs → Prop
  | .next, g => Wp (b g) A B
  | .ret o, g => A (.ret o) g
  | .brk, g => A .brk g
  | .cnt, g => A .cnt g
def IfK (b : Bool) (P Q : Prop) : Prop := if b = true then P else Q
theorem IfK.mk {b : Bool} {P Q : Prop} (h1 : b = true → P) (h2 : b = false → Q) : IfK b P Q := by
  cases b
  · exact h2 rfl
  · exact h1 rfl
theorem IfK.dec {p : Prop} [Decidable p] {P Q : Prop} (h1 : p → P) (h2 : ¬ p → Q) : IfK (decide p) P Q := by
  unfold IfK
  split
  · exact h1 (of_decide_eq_true (by assumption))
  · rename_i h
    exact h2 fun p => h (decide_eq_true p)
theorem IfK.t {b : Bool} {P Q : Prop} (h : b = true) (k : P) : IfK b P Q := by subst h; exact k
theorem IfK.f {b : Bool} {P Q : Prop} (h : b = false) (k : Q) : IfK b P Q := by subst h; exact k
theorem IfK.dt {p : Prop} [Decidable p] {P Q : Prop} (h : p) (k : P) : IfK (decide p) P Q := IfK.t (decide_eq_true h) k
theorem IfK.df {p : Prop} [Decidable p] {P Q : Prop} (h : ¬ p) (k : Q) : IfK (decide p) P Q := IfK.f (decide_eq_false h) k
def TstK (A : Bool → Gs → Prop) : O → Gs → Prop
  | .d (.bool b), g => A b g
  | _, _ => False
def RunK (np : Nat) (os : List O) (A : O → List O → Prop) (B : Exn → Prop) : Fl → Gs → Prop
  | .next, g => FW (finF np os (.d .none) g) A B
  | .ret o, g => FW (finF np os o g) A B
  | _, _ => False
def ForK (set : O → M Unit) (body : M Fl) (r : List PyData) (A : Fl → Gs → Prop) (B : Exn → Gs → Prop) : Fl → Gs → Prop
  | .next, g => Wp (forM set body r g) A B
  | .cnt, g => Wp (forM set body r g) A B
  | .brk, g => A .next g
  | .ret o, g => A (.ret o) g
def LcG (vs : List Nat) (set : O → M Unit) (tst : M Bool) (elt : M O) (r : List PyData) (acc : List O) (A : List O → Gs → Prop) (B : Exn → Gs → Prop) (g : Gs) : Prop := Wp (lcM vs set tst elt r acc (wipeG g vs)) A B
def CmpK (A : O → Gs → Prop) (g1 : Gs) (vs : List Nat) (os : List O) (g3 : Gs) : Prop := A (.lst os) (restG g1 vs g3)
def CmpG (vs : List Nat) (set : O → M Unit) (tst : M Bool) (elt : M O) (A : O → Gs → Prop) (ds : List PyData) (g1 : Gs) : Prop := Wp (lcM vs set tst elt ds [] (wipeG g1 vs)) (CmpK A g1 vs) fun _ _ => False
def Bk (A : O → Gs → Prop) (as : List Arg) (k : Nat) (g : Gs) (r : O) (ps : List O) : Prop := ps.length = k ∧ A r (giveA as ps g)
section
variable {α β : Type} {A : O → Gs → Prop} {AB : Bool → Gs → Prop} {AF : Fl → Gs → Prop} {AL : List O → Gs → Prop} {AU : Unit → Gs → Prop} {AR : List Arg → Gs → Prop} {AD : List PyData → Gs → Prop} {B : Exn → Gs → Prop} {g g' g1 g2 g3 : Gs} {m n : M O} {ms : M (List O)} {i k : Nat} {o : O} {os : List O} {a b : M Fl} {c d : M Bool} {P Q : Prop}
instance s_seq : Stp (Wp (seqM a b g) AF B) (Wp (a g) (SeqK b AF B) B) := ⟨fun h => by
  rw [wp_seq]
  exact h.mono (fun fl g1 q => by cases fl <;> exact q) fun _ _ z => z⟩
instance s_seqN : Stp (SeqK b AF B .next g) (Wp (b g) AF B) := ⟨id⟩
instance s_seqR : Stp (SeqK b AF B (.ret o) g) (AF (.ret o) g) := ⟨id⟩
instance s_seqB : Stp (SeqK b AF B .brk g) (AF .brk g) := ⟨id⟩
instance s_seqC : Stp (SeqK b AF B .cnt g) (AF .cnt g) := ⟨id⟩
instance s_asg {f : O → M Unit} : Stp (Wp (asgM m f g) AF B) (Wp (m g) (fun o g1 => Wp (f o g1) (fun _ g2 => AF .next g2) B) B) := ⟨fun h => by rw [wp_asg]; exact h⟩
instance s_retM : Stp (Wp (retM m g) AF B) (Wp (m g) (fun o g1 => AF (.ret o) g1) B) := ⟨fun h => by rw [wp_retM]; exact h⟩
instance s_drop : Stp (Wp (dropM m g) AF B) (Wp (m g) (fun o g1 => AF .next g1) B) := ⟨fun h => by rw [wp_drop]; exact h⟩
instance s_if {A : α → Gs → Prop} {m n : M α} : Stp (Wp (ifM c m n g) A B) (Wp (c g) (fun b g1 => IfK b (Wp (m g1) A B) (Wp (n g1) A B)) B) := ⟨fun h => by rw [wp_if]; exact h⟩
instance s_ifT : Stp (IfK true P Q) P := ⟨fun h => h⟩
instance s_ifF : Stp (IfK false P Q) Q := ⟨fun h => h⟩
instance s_ifN {b : Bool} : Stp (IfK (!b) P Q) (IfK b Q P) := ⟨fun h => by cases b <;> exact h⟩
instance s_tst : Stp (Wp (tstM m g) AB B) (Wp (m g) (TstK AB) B) := ⟨fun h => by
  rw [wp_tst]
  exact h.mono (fun o g1 q => by unfold TstK at q; split at q <;> first | exact q | exact q.elim) fun _ _ z => z⟩
instance s_tstB {b : Bool} : Stp (TstK AB (.d (.bool b)) g) (AB b g) := ⟨id⟩
instance s_op {f : List O → Option O} : Stp (Wp (opM f ms g) A B) (Wp (ms g) (fun os g1 => optW (f os) fun o => A o g1) B) := ⟨fun h => by rw [wp_op]; exact h⟩
instance s_cons : Stp (Wp (consM m ms g) AL B) (Wp (m g) (fun o g1 => Wp (ms g1) (fun os g2 => AL (o :: os) g2) B) B) := ⟨fun h => by rw [wp_cons]; exact h⟩
instance s_ret {A : α → Gs → Prop} {x : α} : Stp (Wp (M.ret x g) A B) (A x g) := ⟨id⟩
instance s_bd {C : β → Gs → Prop} {m : M α} {f : α → M β} : Stp (Wp (M.bd m f g) C B) (Wp (m g) (fun x g1 => Wp (f x g1) C B) B) := ⟨fun h => by rw [wp_bd]; exact h⟩
instance s_d {x : PyData} : Stp (Wp (dM x g) A B) (A (.d x) g) := ⟨id⟩
instance s_rd {x : PyData} [h : Get g i (some (.d x))] : Stp (Wp (rdM i g) A B) (A (.d x) g) := ⟨fun k => z_rd h.get k⟩
instance s_pk [h : Get g i (some o)] : Stp (Wp (pkM i g) A B) (A o g) := ⟨fun k => z_pk h.get k⟩
instance s_mv [h : Get g i (some o)] [p : Put g i none g'] : Stp (Wp (mvM i g) A B) (A o g') := ⟨fun k => z_mv h.get p.put k⟩
/-- what is read as data -/
class FzG (g : Gs) (i : Nat) (o : O) (x : outParam PyData) (g' : outParam Gs) : Prop where
  go : ∀ {A : O → Gs → Prop} {B : Exn → Gs → Prop}, g[i]? = some (some o) → A (.d x) g' → Wp (fzM i g) A B
instance fzg0 {x : PyData} : FzG g i (.d x) x g := ⟨fun h k => z_fz h k⟩
instance fzg1 {x : PyData} [f : FzC (.lst os) x] [p : Put g i (some (.d x)) g'] : FzG g i (.lst os) x g' := ⟨fun h k => z_fzL h f.eq p.put k⟩
instance fzg2 {x : PyData} [f : FzC (.tup os) x] [p : Put g i (some (.d x)) g'] : FzG g i (.tup os) x g' := ⟨fun h k => z_fzT h f.eq p.put k⟩
instance s_fz {x : PyData} [h : Get g i (some o)] [f : FzG g i o x g'] : Stp (Wp (fzM i g) A B) (A (.d x) g') := ⟨fun k => f.go h.get k⟩
instance s_set [p : Put g i (some o) g'] : Stp (Wp (setM i o g) AU B) (AU () g') := ⟨fun k => z_set p.put k⟩
def TupK (A : O → Gs → Prop) (os : List O) (g : Gs) : Prop := lenOk os.length = true ∧ A (mkTup os) g
def LstK (A : O → Gs → Prop) (os : List O) (g : Gs) : Prop := lenOk os.length = true ∧ A (.lst os) g
instance s_tup : Stp (Wp (tupM ms g) A B) (Wp (ms g) (TupK A) B) := ⟨fun h => by rw [wp_tup]; exact h⟩
instance s_tupE [s : SmC os] [t : TupC os o] : Stp (TupK A os g) (A o g) := ⟨fun h => ⟨s.ok, by rw [t.eq]; exact h⟩⟩
instance s_lst : Stp (Wp (lstM ms g) A B) (Wp (ms g) (LstK A) B) := ⟨fun h => by rw [wp_lst]; exact h⟩
instance s_lstE [s : SmC os] : Stp (LstK A os g) (A (.lst os) g) := ⟨fun h => ⟨s.ok, h⟩⟩
instance s_bl : Stp (Wp (blM c g) A B) (Wp (c g) (fun b g1 => A (.d (.bool b)) g1) B) := ⟨fun h => by rw [wp_bl]; exact h⟩
instance s_andV : Stp (Wp (andV m n g) A B) (Wp (tstM m g) (fun b g1 => IfK b (Wp (n g1) A B) (A (.d (.bool false)) g1)) B) := ⟨fun h => by rw [wp_andV]; exact h⟩
instance s_orV : Stp (Wp (orV m n g) A B) (Wp (tstM m g) (fun b g1 => IfK b (A (.d (.bool true)) g1) (Wp (n g1) A B)) B) := ⟨fun h => by rw [wp_orV]; exact h⟩
instance s_notV : Stp (Wp (notV m g) A B) (Wp (tstM m g) (fun b g1 => A (.d (.bool (!b))) g1) B) := ⟨fun h => by rw [wp_notV]; exact h⟩
instance s_notZ : Stp (Wp (notZ c g) AB B) (Wp (c g) (fun b g1 => AB (!b) g1) B) := ⟨fun h => by rw [wp_notZ]; exact h⟩
instance s_andZ : Stp (Wp (andZ c d g) AB B) (Wp (c g) (fun b g1 => IfK b (Wp (d g1) AB B) (AB false g1)) B) := ⟨fun h => by rw [wp_andZ]; exact h⟩
instance s_orZ : Stp (Wp (orZ c d g) AB B) (Wp (c g) (fun b g1 => IfK b (AB true g1) (Wp (d g1) AB B)) B) := ⟨fun h => by rw [wp_orZ]; exact h⟩
instance s_valA {ms : M (List Arg)} : Stp (Wp (valA m ms g) AR B) (Wp (m g) (fun o g1 => Wp (ms g1) (fun as g2 => AR (.val o :: as) g2) B) B) := ⟨fun h => by rw [wp_valA]; exact h⟩
instance s_slIn {ms : M (List Arg)} [h : Get g i (some o)] : Stp (Wp (slIn i ms g) AR B) (Wp (ms g) (fun as g2 => AR (.sl i :: as) g2) B) := ⟨fun k => z_sl h.get k⟩
instance s_itD {x : List PyData} : Stp (Wp (itemsM (.d (.list x)) g) AD B) (AD x g) := ⟨fun h => h⟩
instance s_itT {x : List PyData} : Stp (Wp (itemsM (.d (.tuple x)) g) AD B) (AD x g) := ⟨fun h => h⟩
instance s_itS {x : Str} : Stp (Wp (itemsM (.d (.str x)) g) AD B) (AD (signs x) g) := ⟨fun h => h⟩
instance s_itG {x : List PyData} : Stp (Wp (itemsM (.gL x) g) AD B) (AD x g) := ⟨fun h => h⟩
instance s_itGT {x : List PyData} : Stp (Wp (itemsM (.gT x) g) AD B) (AD x g) := ⟨fun h => h⟩
instance s_itO {ds : List PyData} [h : AllC os ds] : Stp (Wp (itemsM (.lst os) g) AD B) (AD ds g) := ⟨fun k => z_itO h.eq k⟩
instance s_rng1 {x : Int} : Stp (Wp (rng1M [.d (.int x)] g) AD B) (Sd (-4611686018427387904 ≤ x ∧ x < 4611686018427387904) (AD (intsF 0 x.toNat) g)) := ⟨fun h => z_rng1 h.1.1 h.1.2 h.2⟩
instance s_rng2 {x y : Int} : Stp (Wp (rng2M [.d (.int x), .d (.int y)] g) AD B) (Sd ((-4611686018427387904 ≤ x ∧ x < 4611686018427387904) ∧ -4611686018427387904 ≤ y ∧ y < 4611686018427387904) (AD (intsF x (y - x).toNat) g)) := ⟨fun h => z_rng2 h.1.1.1 h.1.1.2 h.1.2.1 h.1.2.2 h.2⟩
def VwK (A : O → Gs → Prop) : O → Gs → Prop
  | .d x, g => A (.d x) g
  | _, _ => False
instance s_vw : Stp (Wp (vwM m g) A B) (Wp (m g) (VwK A) B) := ⟨fun h => by
  rw [wp_vw]
  exact h.mono (fun o g1 q => by cases o <;> first | exact q | exact q.elim) fun _ _ z => z⟩
instance s_vwK {x : PyData} : Stp (VwK A (.d x) g) (A (.d x) g) := ⟨id⟩
instance s_for0 {set : O → M Unit} : Stp (Wp (forM set a [] g) AF B) (AF .next g) := ⟨fun h => h⟩
instance s_forS {set : O → M Unit} {x : PyData} {r : List PyData} : Stp (Wp (forM set a (x :: r) g) AF B) (Wp (set (.d x) g) (fun _ g1 => Wp (a g1) (ForK set a r AF B) B) B) := ⟨fun h => by
  simp only [forM, wp_bd]
  refine h.mono (fun _ g1 q => q.mono (fun fl g2 z => ?_) fun _ _ z => z) fun _ _ z => z
  cases fl <;> exact z⟩
instance s_forN {set : O → M Unit} {r : List PyData} : Stp (ForK set a r AF B .next g) (Wp (forM set a r g) AF B) := ⟨id⟩
instance s_forC {set : O → M Unit} {r : List PyData} : Stp (ForK set a r AF B .cnt g) (Wp (forM set a r g) AF B) := ⟨id⟩
instance s_forB {set : O → M Unit} {r : List PyData} : Stp (ForK set a r AF B .brk g) (AF .next g) := ⟨id⟩
instance s_forR {set : O → M Unit} {r : List PyData} : Stp (ForK set a r AF B (.ret o) g) (AF (.ret o) g) := ⟨id⟩
instance s_comp {vs : List Nat} {mi : M (List PyData)} {set : O → M Unit} : Stp (Wp (compM vs mi set c m g) A B) (Wp (mi g) (fun ds g1 => Sd (ds.length ≤ 16777216) (CmpG vs set c m A ds g1)) B) := ⟨fun h => by
  rw [wp_comp]
  exact h.mono (fun ds g1 q => ⟨lenOk_of q.1, q.2⟩) fun _ _ z => z⟩
instance s_cmpG {vs : List Nat} {set : O → M Unit} {ds : List PyData} [w : WipC g vs g2] : Stp (CmpG vs set c m A ds g) (Wp (lcM vs set c m ds [] g2) (CmpK A g vs) fun _ _ => False) := ⟨fun h => by
  unfold CmpG
  rw [w.eq]
  exact h⟩
instance s_cmpK {vs : List Nat} [w : RstC g1 vs g3 g'] : Stp (CmpK A g1 vs os g3) (A (.lst os) g') := ⟨fun h => by
  unfold CmpK
  rw [w.eq]
  exact h⟩
instance s_lc0 {vs : List Nat} {set : O → M Unit} : Stp (Wp (lcM vs set c m [] os g) AL B) (AL os g) := ⟨fun h => h⟩
def LcX (vs : List Nat) (set : O → M Unit) (tst : M Bool) (elt : M O) (r : List PyData) (acc : List O) (A : List O → Gs → Prop) (B : Exn → Gs → Prop) (o : O) (g : Gs) : Prop := LcG vs set tst elt r (acc ++ [o]) A B g
instance s_lcS {vs : List Nat} {set : O → M Unit} {x : PyData} {r : List PyData} : Stp (Wp (lcM vs set c m (x :: r) os g) AL B) (Wp (set (.d x) g) (fun _ g1 => Wp (c g1) (fun b g2 => IfK b (Wp (m g2) (LcX vs set c m r os AL B) B) (LcG vs set c m r os AL B g2)) B) B) := ⟨fun h => by
  simp only [lcM, wp_bd]
  refine h.mono (fun _ g1 q => q.mono (fun b g2 z => ?_) fun _ _ z => z) fun _ _ z => z
  cases b with
  | false => exact z
  | true => exact (wp_bd (m := m)).mpr z⟩
instance s_lcX {vs : List Nat} {set : O → M Unit} {r : List PyData} {os' : List O} [p : AppC os [o] os'] : Stp (LcX vs set c m r os AL B o g) (LcG vs set c m r os' AL B g) := ⟨fun h => by
  unfold LcX
  rw [p.eq]
  exact h⟩
instance s_lcG {vs : List Nat} {set : O → M Unit} {r : List PyData} [w : WipC g vs g2] : Stp (LcG vs set c m r os AL B g) (Wp (lcM vs set c m r os g2) AL B) := ⟨fun h => by
  unfold LcG
  rw [w.eq]
  exact h⟩
instance s_yes : Stp (Wp (yesM g) AB B) (AB true g) := ⟨fun h => h⟩
class TakC (as : List Arg) (g : Gs) (os : outParam (List O)) (g' : outParam Gs) : Prop where
  eq : takeA as g = some (os, g')
instance tak0 : TakC [] g [] g := ⟨rfl⟩
instance takV {as : List Arg} [h : TakC as g os g'] : TakC (.val o :: as) g (o :: os) g' := ⟨by rw [takeA, h.eq]⟩
class TakO (as : List Arg) (i : Nat) (o : O) (g : Gs) (os : outParam (List O)) (g' : outParam Gs) : Prop where
  eq : g[i]? = some (some o) → takeA (.sl i :: as) g = some (o :: os, g')
instance takD {as : List Arg} {x : PyData} [t : TakC as g os g'] : TakO as i (.d x) g os g' := ⟨fun h => by rw [takeA, h]; simp only [t.eq]⟩
instance takL {as : List Arg} {x : List O} [p : Put g i none g1] [t : TakC as g1 os g'] : TakO as i (.lst x) g os g' := ⟨fun h => by rw [takeA, h]; simp only [p.put, t.eq]⟩
instance takT {as : List Arg} {x : List O} [p : Put g i none g1] [t : TakC as g1 os g'] : TakO as i (.tup x) g os g' := ⟨fun h => by rw [takeA, h]; simp only [p.put, t.eq]⟩
instance takK {as : List Arg} {x : List (Key × O)} [p : Put g i none g1] [t : TakC as g1 os g'] : TakO as i (.dK x) g os g' := ⟨fun h => by rw [takeA, h]; simp only [p.put, t.eq]⟩
instance takTT {as : List Arg} {x : List (List Key × O)} [p : Put g i none g1] [t : TakC as g1 os g'] : TakO as i (.dT x) g os g' := ⟨fun h => by rw [takeA, h]; simp only [p.put, t.eq]⟩
instance takI {as : List Arg} {s : Str} {x : List (Str × O)} [p : Put g i none g1] [t : TakC as g1 os g'] : TakO as i (.ins s x) g os g' := ⟨fun h => by rw [takeA, h]; simp only [p.put, t.eq]⟩
instance takGL {as : List Arg} {x : List PyData} [p : Put g i none g1] [t : TakC as g1 os g'] : TakO as i (.gL x) g os g' := ⟨fun h => by rw [takeA, h]; simp only [p.put, t.eq]⟩
instance takGT {as : List Arg} {x : List PyData} [p : Put g i none g1] [t : TakC as g1 os g'] : TakO as i (.gT x) g os g' := ⟨fun h => by rw [takeA, h]; simp only [p.put, t.eq]⟩
instance takS {as : List Arg} [h : Get g i (some o)] [t : TakO as i o g os g'] : TakC (.sl i :: as) g (o :: os) g' := ⟨t.eq h.get⟩
class GivC (as : List Arg) (ps : List O) (g : Gs) (g' : outParam Gs) : Prop where
  eq : giveA as ps g = g'
instance giv0 {ps : List O} : GivC [] ps g g := ⟨by cases ps <;> rfl⟩
instance givV {as : List Arg} {ps : List O} {x : O} [h : GivC as ps g g'] : GivC (.val o :: as) (x :: ps) g g' := ⟨by rw [giveA, h.eq]⟩
class GivO (i : Nat) (o : O) (p : Option O) (g : Gs) (g' : outParam Gs) : Prop where
  eq : g[i]? = some p → (match g[i]? with | some none => g.set i (some o) | _ => g) = g'
instance givN [p : Put g i (some o) g'] : GivO i o none g g' := ⟨fun h => by rw [h]; exact p.put⟩
instance givSm {p : O} : GivO i o (some p) g g := ⟨fun h => by rw [h]⟩
instance givS {as : List Arg} {ps : List O} {p : Option O} [h : Get g i p] [q : GivO i o p g g1] [r : GivC as ps g1 g'] : GivC (.sl i :: as) (o :: ps) g g' := ⟨Eq.trans (show giveA (.sl i :: as) (o :: ps) g = giveA as ps g1 from congrArg (giveA as ps) (q.eq h.get)) r.eq⟩
instance s_call {f : Fn} {dfs : List PyData} {ms : M (List Arg)} : Stp (Wp (callM f dfs ms g) A B) (Wp (ms g) (fun as g1 => Cw f dfs A B as g1) B) := ⟨fun k => z_call k⟩
theorem takeA_len : ∀ {as : List Arg} {g g' : Gs} {os : List O}, takeA as g = some (os, g') → os.length = as.length
  | [], _, _, _, h => by simp only [takeA, Option.some.injEq, Prod.mk.injEq] at h; rw [← h.1]; rfl
  | .val o :: r, g, g', os, h => by
    simp only [takeA] at h
    split at h
    · rename_i q
      simp only [Option.some.injEq, Prod.mk.injEq] at h
      rw [← h.1, List.length_cons, List.length_cons, takeA_len q]
    · cases h
  | .sl i :: r, g, g', os, h => by
    simp only [takeA] at h
    split at h
    · split at h
      · rename_i q
        simp only [Option.some.injEq, Prod.mk.injEq] at h
        rw [← h.1, List.length_cons, List.length_cons, takeA_len q]
      · cases h
    · split at h
      · rename_i q
        simp only [Option.some.injEq, Prod.mk.injEq] at h
        rw [← h.1, List.length_cons, List.length_cons, takeA_len q]
      · cases h
    · cases h
theorem giveA_take : ∀ {as : List Arg} {ps : List O} {g : Gs}, giveA as (ps.take as.length) g = giveA as ps g
  | [], ps, g => by cases ps <;> simp [giveA]
  | .val o :: r, [], g => rfl
  | .val o :: r, p :: ps, g => by simp only [List.length_cons, List.take_succ_cons, giveA, giveA_take (as := r)]
  | .sl i :: r, [], g => rfl
  | .sl i :: r, p :: ps, g => by simp only [List.length_cons, List.take_succ_cons, giveA, giveA_take (as := r)]
class DfsC (os : List O) (dfs : List PyData) (os' : outParam (List O)) : Prop where
  eq : os ++ dfs.map O.d = os'
instance dfs0 : DfsC os [] os := ⟨by simp⟩
instance dfs1 {x : PyData} {os' : List O} [p : AppC os [.d x] os'] : DfsC os [x] os' := ⟨p.eq⟩
instance s_cw {f : Fn} {dfs : List PyData} {as : List Arg} {os' : List O} [t : TakC as g os g'] [d : DfsC os dfs os'] [l : LenC os' k] : Stp (Cw f dfs A B as g) (FW (f os') (Bk A as k g') (fun x => B x g')) := ⟨fun h =>
  z_cw t.eq d.eq (h.mono (fun r ps q => by
    refine ⟨l.eq ▸ q.1, ?_⟩
    rw [takeA_len t.eq, giveA_take]
    exact q.2) fun _ z => z)⟩
instance s_bk {as : List Arg} {ps : List O} {r : O} [l : LenC ps k] [q : GivC as ps g g'] : Stp (Bk A as k g r ps) (A r g') := ⟨fun h => ⟨l.eq, by rw [q.eq]; exact h⟩⟩
class TopC (np : Nat) (g : Gs) (ps : outParam (List O)) : Prop where
  eq : optAll (g.take np) = some ps
instance top0 : TopC 0 g [] := ⟨by simp [optAll]⟩
instance topS {ps : List O} [h : TopC k g ps] : TopC (k + 1) (some o :: g) (o :: ps) := ⟨by simp only [List.take_succ_cons, optAll, h.eq]⟩
class DrpC (np : Nat) (os : List O) (os' : outParam (List O)) : Prop where
  eq : os.drop np = os'
instance drp0 : DrpC 0 os os := ⟨rfl⟩
instance drpN : DrpC k [] [] := ⟨by simp⟩
instance drpS {os' : List O} [h : DrpC k os os'] : DrpC (k + 1) (o :: os) os' := ⟨by rw [List.drop_succ_cons, h.eq]⟩
instance s_fin {np : Nat} {ps dr rs : List O} {A : O → List O → Prop} {B : Exn → Prop} [t : TopC np g ps] [d : DrpC np os dr] [p : AppC ps dr rs] : Stp (FW (finF np os o g) A B) (A o rs) := ⟨fun h => z_fin t.eq (by rw [d.eq, p.eq]; exact h)⟩
instance s_runN {np : Nat} {A : O → List O → Prop} {B : Exn → Prop} : Stp (RunK np os A B .next g) (FW (finF np os (.d .none) g) A B) := ⟨id⟩
instance s_runR {np : Nat} {A : O → List O → Prop} {B : Exn → Prop} : Stp (RunK np os A B (.ret o) g) (FW (finF np os o g) A B) := ⟨id⟩
class RunC (na nN : Nat) (os : List O) (g : outParam Gs) : Prop where
  len : os.length = na
  eq : os.map some ++ List.replicate (nN - na) none = g
instance run00 : RunC 0 0 [] [] := ⟨rfl, rfl⟩
instance run0S [h : RunC 0 k [] g] : RunC 0 (k + 1) [] (none :: g) := ⟨rfl, by
  have := h.eq
  simp only [List.map_nil, Nat.sub_zero, List.nil_append] at this ⊢
  rw [List.replicate_succ, this]⟩
instance runSS {na nN : Nat} [h : RunC na nN os g] : RunC (na + 1) (nN + 1) (o :: os) (some o :: g) := ⟨by rw [List.length_cons, h.len], by
  have := h.eq
  rw [Nat.add_sub_add_right, List.map_cons, List.cons_append, this]⟩
class AdC (os : List O) : Prop where
  eq : os.all isD = true
instance ad0 : AdC [] := ⟨rfl⟩
instance adS {x : PyData} [h : AdC os] : AdC (.d x :: os) := ⟨by rw [List.all_cons, h.eq]; rfl⟩
theorem fwRun {np na nN : Nat} {dr : List O} {mf : M Fl} {A : O → List O → Prop} {B : Exn → Prop} [r : RunC na nN os g] [d : DrpC np os dr] [e : AdC dr] (k : Wp (mf g) (RunK np os A B) (fun x _ => B x)) : FW (runF np na nN mf os) A B :=
  z_run r.len (by rw [d.eq]; exact e.eq) r.eq (k.mono (fun fl g q => by cases fl <;> exact q) fun _ _ z => z)
instance s_run {np na nN : Nat} {dr : List O} {mf : M Fl} {A : O → List O → Prop} {B : Exn → Prop} [r : RunC na nN os g] [d : DrpC np os dr] [e : AdC dr] : Stp (FW (runF np na nN mf os) A B) (Wp (mf g) (RunK np os A B) (fun x _ => B x)) := ⟨fun k => fwRun k⟩
instance s_fok {ps : List O} {A : O → List O → Prop} {B : Exn → Prop} : Stp (FW (.ok o ps) A B) (A o ps) := ⟨id⟩
variable {AO : O → Prop} {x y : Int} {s t : Str} {ds es : List PyData}
instance o_some : Stp (optW (some o) AO) (AO o) := ⟨id⟩
instance o_addI : Stp (optW (addF [.d (.int x), .d (.int y)]) AO) (AO (.d (.int (x + y)))) := ⟨id⟩
instance o_addS : Stp (optW (addF [.d (.str s), .d (.str t)]) AO) (Sd (s.length + t.length ≤ 16777216) (AO (.d (.str (s ++ t))))) := ⟨fun h => z_addS h.1 h.2⟩
instance o_addLL {p q : List O} [a : AllC p ds] [b : AllC q es] {ps : List PyData} {po : List O} [pa : AppC ds es ps] [pm : MpC ps po] : Stp (optW (addF [.lst p, .lst q]) AO) (Sd (ds.length + es.length ≤ 16777216) (AO (.lst po))) := ⟨fun h => z_addLL a.eq b.eq h.1 (by rw [pa.eq, pm.eq]; exact h.2)⟩
instance o_addDL {q : List O} [b : AllC q es] {ps : List PyData} {po : List O} [pa : AppC ds es ps] [pm : MpC ps po] : Stp (optW (addF [.d (.list ds), .lst q]) AO) (Sd (ds.length + es.length ≤ 16777216) (AO (.lst po))) := ⟨fun h => z_addDL b.eq h.1 (by rw [pa.eq, pm.eq]; exact h.2)⟩
instance o_addLD {p : List O} [a : AllC p ds] {ps : List PyData} {po : List O} [pa : AppC ds es ps] [pm : MpC ps po] : Stp (optW (addF [.lst p, .d (.list es)]) AO) (Sd (ds.length + es.length ≤ 16777216) (AO (.lst po))) := ⟨fun h => z_addLD a.eq h.1 (by rw [pa.eq, pm.eq]; exact h.2)⟩
instance o_addDD {ps : List PyData} {po : List O} [pa : AppC ds es ps] [pm : MpC ps po] : Stp (optW (addF [.d (.list ds), .d (.list es)]) AO) (Sd (ds.length + es.length ≤ 16777216) (AO (.lst po))) := ⟨fun h => z_addDD h.1 (by rw [pa.eq, pm.eq]; exact h.2)⟩
instance o_addTT {ps : List PyData} [pa : AppC ds es ps] : Stp (optW (addF [.d (.tuple ds), .d (.tuple es)]) AO) (Sd (ds.length + es.length ≤ 16777216) (AO (.d (.tuple ps)))) := ⟨fun h => z_addTT h.1 (by rw [pa.eq]; exact h.2)⟩
instance o_subI : Stp (optW (subF [.d (.int x), .d (.int y)]) AO) (AO (.d (.int (x - y)))) := ⟨id⟩
instance o_mulI : Stp (optW (mulF [.d (.int x), .d (.int y)]) AO) (Sd (mulC x y = true) (AO (.d (.int (x * y))))) := ⟨fun h => z_mulI h.1 h.2⟩
instance o_divI : Stp (optW (divF [.d (.int x), .d (.int y)]) AO) (Sd (0 < y ∧ y < 18446744073709551616) (AO (.d (.int (x / y))))) := ⟨fun h => z_divI h.1.1 h.1.2 h.2⟩
instance o_modI : Stp (optW (modF [.d (.int x), .d (.int y)]) AO) (Sd (0 < y) (AO (.d (.int (x % y))))) := ⟨fun h => z_modI h.1 h.2⟩
instance o_powI : Stp (optW (powF [.d (.int x), .d (.int y)]) AO) (Sd (powC x y = true) (AO (.d (.int (x ^ y.toNat))))) := ⟨fun h => z_powI h.1 h.2⟩
instance o_negI : Stp (optW (negF [.d (.int x)]) AO) (AO (.d (.int (-x)))) := ⟨id⟩
theorem powC_of {x y : Int} (h : 0 ≤ y ∧ y ≤ 1000000 ∧ x.natAbs < 18446744073709551616) : powC x y = true := by simp [powC, h.1, h.2.1, h.2.2]
instance o_shlI : Stp (optW (shlF [.d (.int x), .d (.int y)]) AO) (Sd (powC x y = true) (AO (.d (.int (x * 2 ^ y.toNat))))) := ⟨fun h => by
  have e : shlF [.d (.int x), .d (.int y)] = some (.d (.int (x * 2 ^ y.toNat))) := by simp [shlF, i2F, h.1]
  rw [e]; exact h.2⟩
instance o_shrI : Stp (optW (shrF [.d (.int x), .d (.int y)]) AO) (Sd (0 ≤ y) (AO (.d (.int (x / 2 ^ y.toNat))))) := ⟨fun h => by
  have e : shrF [.d (.int x), .d (.int y)] = some (.d (.int (x / 2 ^ y.toNat))) := by
    have := h.1
    simp [shrF, i2F, this]
  rw [e]; exact h.2⟩
instance o_andI : Stp (optW (andF [.d (.int x), .d (.int y)]) AO) (AO (.d (.int (Builtin.bitAnd x y)))) := ⟨id⟩
instance o_orI : Stp (optW (orF [.d (.int x), .d (.int y)]) AO) (AO (.d (.int (Builtin.bitOr x y)))) := ⟨id⟩
instance o_xorI : Stp (optW (xorF [.d (.int x), .d (.int y)]) AO) (AO (.d (.int (Builtin.bitXor x y)))) := ⟨id⟩
instance o_ltI : Stp (optW (ltF [.d (.int x), .d (.int y)]) AO) (AO (.d (.bool (decide (x < y))))) := ⟨id⟩
instance o_leI : Stp (optW (leF [.d (.int x), .d (.int y)]) AO) (AO (.d (.bool (decide (x ≤ y))))) := ⟨id⟩
instance o_gtI : Stp (optW (gtF [.d (.int x), .d (.int y)]) AO) (AO (.d (.bool (decide (y < x))))) := ⟨id⟩
instance o_geI : Stp (optW (geF [.d (.int x), .d (.int y)]) AO) (AO (.d (.bool (decide (y ≤ x))))) := ⟨id⟩
instance o_maxI : Stp (optW (max2F [.d (.int x), .d (.int y)]) AO) (AO (.d (.int (max x y)))) := ⟨fun h => z_maxI h⟩
instance o_minI : Stp (optW (min2F [.d (.int x), .d (.int y)]) AO) (AO (.d (.int (min x y)))) := ⟨fun h => z_minI h⟩
theorem beqd {α : Type} [BEq α] [LawfulBEq α] [DecidableEq α] {x y : α} : (x == y) = decide (x = y) := by
  by_cases h : x = y
  · subst h; simp
  · rw [decide_eq_false h]; simpa using h
instance o_eqI : Stp (optW (eqF [.d (.int x), .d (.int y)]) AO) (AO (.d (.bool (decide (x = y))))) := ⟨fun h => z_eqI (by rw [beqd]; exact h)⟩
instance o_neI : Stp (optW (neF [.d (.int x), .d (.int y)]) AO) (AO (.d (.bool (!decide (x = y))))) := ⟨fun h => z_neI (by rw [beqd]; exact h)⟩
instance o_eqB {p q : Bool} : Stp (optW (eqF [.d (.bool p), .d (.bool q)]) AO) (AO (.d (.bool (decide (p = q))))) := ⟨fun h => z_eqB (by rw [beqd]; exact h)⟩
instance o_eqS : Stp (optW (eqF [.d (.str s), .d (.str t)]) AO) (AO (.d (.bool (decide (s = t))))) := ⟨fun h => z_eqS (by rw [beqd]; exact h)⟩
instance o_neS : Stp (optW (neF [.d (.str s), .d (.str t)]) AO) (AO (.d (.bool (!decide (s = t))))) := ⟨fun h => z_neS (by rw [beqd]; exact h)⟩
instance o_lenS : Stp (optW (lenF [.d (.str s)]) AO) (Sd (s.length ≤ 16777216) (AO (.d (.int s.length)))) := ⟨fun h => z_lenS h.1 h.2⟩
instance o_lenG : Stp (optW (lenF [.gL ds]) AO) (AO (.d (.int ds.length))) := ⟨id⟩
instance o_lenGT : Stp (optW (lenF [.gT ds]) AO) (AO (.d (.int ds.length))) := ⟨id⟩
instance o_lenL : Stp (optW (lenF [.d (.list ds)]) AO) (AO (.d (.int ds.length))) := ⟨id⟩
instance o_lenT : Stp (optW (lenF [.d (.tuple ds)]) AO) (AO (.d (.int ds.length))) := ⟨id⟩
instance o_lenO : Stp (optW (lenF [.lst os]) AO) (AO (.d (.int os.length))) := ⟨id⟩
instance o_slHi : Stp (optW (slF false true [.d (.str s), .d (.int x)]) AO) (Sd (s.length ≤ 16777216) (AO (.d (.str (cutS s none (some x)))))) := ⟨fun h => z_slHi h.1 h.2⟩
instance o_slLo : Stp (optW (slF true false [.d (.str s), .d (.int x)]) AO) (Sd (s.length ≤ 16777216) (AO (.d (.str (cutS s (some x) none))))) := ⟨fun h => z_slLo h.1 h.2⟩
instance o_slLoT {x : Int} : Stp (optW (slF true false [.d (.tuple ds), .d (.int x)]) AO) (AO (.d (.tuple (cutD ds (some x) none)))) := ⟨fun h => h⟩
instance o_slHiT {x : Int} : Stp (optW (slF false true [.d (.tuple ds), .d (.int x)]) AO) (AO (.d (.tuple (cutD ds none (some x))))) := ⟨fun h => h⟩
instance o_slLoL {x : Int} [a : LsC o ds] : Stp (optW (slF true false [o, .d (.int x)]) AO) (AO (.lst ((cutD ds (some x) none).map O.d))) := ⟨fun h => by
  have e : slF true false [o, .d (.int x)] = some (.lst ((cutD ds (some x) none).map O.d)) := by
    have := a.eq
    cases o with
    | d z => cases z <;> first | (simp [asL] at this; done) | simp [slF, slB, this]
    | _ => first | (simp [asL] at this; done) | simp [slF, slB, this]
  rw [e]; exact h⟩
instance o_slHiL {x : Int} [a : LsC o ds] : Stp (optW (slF false true [o, .d (.int x)]) AO) (AO (.lst ((cutD ds none (some x)).map O.d))) := ⟨fun h => by
  have e : slF false true [o, .d (.int x)] = some (.lst ((cutD ds none (some x)).map O.d)) := by
    have := a.eq
    cases o with
    | d z => cases z <;> first | (simp [asL] at this; done) | simp [slF, slB, this]
    | _ => first | (simp [asL] at this; done) | simp [slF, slB, this]
  rw [e]; exact h⟩
instance o_slB {l r : Option Int} : Stp (optW (slB (.d (.str s)) l r) AO) (Sd (s.length ≤ 16777216) (AO (.d (.str (cutS s l r))))) := ⟨fun h => z_slB h.1 h.2⟩
instance o_slBT {l r : Option Int} : Stp (optW (slB (.d (.tuple ds)) l r) AO) (AO (.d (.tuple (cutD ds l r)))) := ⟨fun h => h⟩
instance o_ix {z : PyData} [l : LtC o ds] [q : NthC ds x z] : Stp (optW (ixF [o, .d (.int x)]) AO) (AO (.d z)) := ⟨fun h => by
  have e : ixF [o, .d (.int x)] = some (.d z) := by
    have h1 := l.eq
    have h2 := q.eq
    unfold ixF
    split
    · rename_i e
      simp only [List.cons.injEq, O.d.injEq, PyData.int.injEq, and_true] at e
      obtain ⟨rfl, rfl⟩ := e
      simp [asLT, asL, asT] at h1
    · rename_i e
      simp only [List.cons.injEq, O.d.injEq, PyData.int.injEq, and_true] at e
      obtain ⟨rfl, rfl⟩ := e
      simp only [h1, h2]
    · rename_i h0 _
      first | exact absurd rfl (h0 _ _) | simp_all
  rw [e]; exact h⟩
theorem eqv_str {s t : Str} : PyData.eqv (.str s) (.str t) = decide (s = t) := by
  rw [← beqd]; rfl
theorem any_str {t : Str} : ∀ {ss : List Str}, ((ss.map PyData.str).any fun z => PyData.eqv z (.str t)) = decide (t ∈ ss)
  | [] => by simp
  | s :: r => by
    rw [List.map_cons, List.any_cons, any_str, eqv_str]
    by_cases h : s = t
    · simp [h]
    · have h' : ¬ t = s := fun e => h e.symm
      simp [h, h']
theorem flat_str : ∀ {ss : List Str}, (ss.map PyData.str).all flatD = true
  | [] => rfl
  | s :: r => by rw [List.map_cons, List.all_cons, flat_str]; rfl
theorem o_inSG {ss : List Str} {neg : Bool} [l : LtC o ds] [q : StsC ds ss] (h : AO (.d (.bool (if neg then !decide (t ∈ ss) else decide (t ∈ ss))))) : optW (inF neg [.d (.str t), o]) AO := by
  refine z_in (b := decide (t ∈ ss)) ?_ h
  have h1 := l.eq
  have h2 : inB (.d (.str t)) o = match asLT o with
    | some ds => if flatD (.str t) = true ∧ ds.all flatD = true then some (ds.any fun z => PyData.eqv z (.str t)) else none
    | none => none := by
    cases o with
    | d z => cases z <;> first | (simp [asLT, asL, asT] at h1; done) | rfl
    | _ => first | (simp [asLT, asL, asT] at h1; done) | rfl
  rw [h2, h1, q.eq]
  simp only [flat_str, any_str]
  rfl
instance o_inS {ss : List Str} [l : LtC o ds] [q : StsC ds ss] : Stp (optW (inF false [.d (.str t), o]) AO) (AO (.d (.bool (decide (t ∈ ss))))) := ⟨fun h => o_inSG (neg := false) h⟩
instance o_ninS {ss : List Str} [l : LtC o ds] [q : StsC ds ss] : Stp (optW (inF true [.d (.str t), o]) AO) (AO (.d (.bool (!decide (t ∈ ss))))) := ⟨fun h => o_inSG (neg := true) h⟩
instance o_sum {is : List Int} [l : LsC o ds] [q : ItsC ds is] : Stp (optW (sumF [o]) AO) (AO (.d (.int is.sum))) := ⟨fun h => by
  have e : sumF [o] = some (.d (.int is.sum)) := by simp only [sumF, l.eq, q.eq, intsOf_map]
  rw [e]; exact h⟩
instance o_all {is : List Bool} [l : LsC o ds] [q : BlsC ds is] : Stp (optW (allF [o]) AO) (AO (.d (.bool (is.all id)))) := ⟨fun h => by
  have e : allF [o] = some (.d (.bool (is.all id))) := by simp only [allF, l.eq, q.eq, blsOf_map]
  rw [e]; exact h⟩
instance o_any {is : List Bool} [l : LsC o ds] [q : BlsC ds is] : Stp (optW (anyF [o]) AO) (AO (.d (.bool (is.any id)))) := ⟨fun h => by
  have e : anyF [o] = some (.d (.bool (is.any id))) := by simp only [anyF, l.eq, q.eq, blsOf_map]
  rw [e]; exact h⟩
instance o_intI : Stp (optW (intF [.d (.int x)]) AO) (AO (.d (.int x))) := ⟨id⟩
instance o_intB {b : Bool} : Stp (optW (intF [.d (.bool b)]) AO) (AO (.d (.int (if b then 1 else 0)))) := ⟨id⟩
instance o_tupF [l : LsC o ds] : Stp (optW (tupF [o]) AO) (AO (.d (.tuple ds))) := ⟨fun h => by
  have e : tupF [o] = some (.d (.tuple ds)) := by simp only [tupF, l.eq]
  rw [e]; exact h⟩
instance o_tupT : Stp (optW (tupF [.d (.tuple ds)]) AO) (AO (.d (.tuple ds))) := ⟨fun h => h⟩
instance o_lstF [l : LtC o ds] [pm : MpC ds os] : Stp (optW (lstF [o]) AO) (AO (.lst os)) := ⟨fun h => by
  rw [← pm.eq] at h
  have e : lstF [o] = some (.lst (ds.map O.d)) := by simp only [lstF, l.eq]
  rw [e]; exact h⟩
end
end Z
namespace Z
open PySem PySem.Spec L2
theorem cutD_lo {α : Type} (xs : List α) (k : Nat) : cutD xs (some (k : Int)) none = xs.drop k := by
  unfold cutD
  rw [HT.sIx_none, HT.sIx_nat]
  have h : xs.drop (min k xs.length) = xs.drop k := by
    by_cases h : k ≤ xs.length
    · rw [Nat.min_eq_left h]
    · rw [Nat.min_eq_right (by omega), List.drop_eq_nil_of_le (by omega), List.drop_eq_nil_of_le (by omega)]
  rw [h]
  apply List.take_of_length_le
  rw [List.length_drop]
  omega
theorem cutD_hi {α : Type} (xs : List α) (k : Nat) : cutD xs none (some (k : Int)) = xs.take k := by
  unfold cutD
  rw [HT.sIx_none, HT.sIx_nat]
  simp only [List.drop_zero, Nat.sub_zero]
  by_cases h : k ≤ xs.length
  · rw [Nat.min_eq_left h]
  · rw [Nat.min_eq_right (by omega), List.take_of_length_le (by omega), List.take_of_length_le (by omega)]
theorem cutD_neg1 {α : Type} (xs : List α) : cutD xs none (some (-1)) = xs.dropLast := by
  unfold cutD
  rw [HT.sIx_none, List.dropLast_eq_take]
  have : HT.sIx xs.length xs.length (some (-1)) = xs.length - 1 := by
    show (if (-1 : Int) < 0 then ((-1 : Int) + (xs.length : Int)).toNat else min (-1 : Int).toNat xs.length) = _
    rw [if_pos (by omega)]
    omega
  rw [this, List.drop_zero, Nat.sub_zero]
class CutC {α : Type} (xs : List α) (lo hi : Option Int) (ys : outParam (List α)) : Prop where
  eq : cutD xs lo hi = ys
instance cut1 {α : Type} {a : α} {r : List α} : CutC (a :: r) (some 1) none r := ⟨cutD_lo _ 1⟩
instance cut1' {α : Type} : CutC ([] : List α) (some 1) none [] := ⟨cutD_lo _ 1⟩
instance cut2 {α : Type} {a b : α} {r : List α} : CutC (a :: b :: r) (some 2) none r := ⟨cutD_lo _ 2⟩
instance cut3 {α : Type} {a b c : α} {r : List α} : CutC (a :: b :: c :: r) (some 3) none r := ⟨cutD_lo _ 3⟩
instance cutH0 {α : Type} : CutC ([] : List α) none (some 1) [] := ⟨cutD_hi _ 1⟩
instance cutH1 {α : Type} {a : α} {r : List α} : CutC (a :: r) none (some 1) [a] := ⟨cutD_hi _ 1⟩
instance cutH2 {α : Type} {a b : α} {r : List α} : CutC (a :: b :: r) none (some 2) [a, b] := ⟨cutD_hi _ 2⟩
instance cutN {α : Type} {r : List α} : CutC r none (some (-1)) r.dropLast := ⟨cutD_neg1 _⟩
section
variable {A : O → Gs → Prop} {AF : Fl → Gs → Prop} {B : Exn → Gs → Prop} {g g' : Gs} {m n : M O} {i : Nat} {o : O} {os : List O} {a b : M Fl} {AO : O → Prop} {x : Int} {ds es : List PyData}
instance (priority := 1100) o_slLoT' [c : CutC ds (some x) none es] : Stp (optW (slF true false [.d (.tuple ds), .d (.int x)]) AO) (AO (.d (.tuple es))) := ⟨fun h => o_slLoT.go (by rw [c.eq]; exact h)⟩
instance (priority := 1100) o_slHiT' [c : CutC ds none (some x) es] : Stp (optW (slF false true [.d (.tuple ds), .d (.int x)]) AO) (AO (.d (.tuple es))) := ⟨fun h => o_slHiT.go (by rw [c.eq]; exact h)⟩
instance (priority := 1100) o_slLoL' [l : LsC o ds] [c : CutC ds (some x) none es] [pm : MpC es os] : Stp (optW (slF true false [o, .d (.int x)]) AO) (AO (.lst os)) := ⟨fun h => o_slLoL.go (by rw [c.eq, pm.eq]; exact h)⟩
instance (priority := 1100) o_slHiL' [l : LsC o ds] [c : CutC ds none (some x) es] [pm : MpC es os] : Stp (optW (slF false true [o, .d (.int x)]) AO) (AO (.lst os)) := ⟨fun h => o_slHiL.go (by rw [c.eq, pm.eq]; exact h)⟩
def JnK (I : Gs → Prop) (A : Fl → Gs → Prop) : Fl → Gs → Prop
  | .next, g => I g
  | .ret o, g => A (.ret o) g
  | .brk, g => A .brk g
  | .cnt, g => A .cnt g
instance s_jnN {I : Gs → Prop} : Stp (JnK I AF .next g) (I g) := ⟨id⟩
instance s_jnR {I : Gs → Prop} : Stp (JnK I AF (.ret o) g) (AF (.ret o) g) := ⟨id⟩
instance s_jnB {I : Gs → Prop} : Stp (JnK I AF .brk g) (AF .brk g) := ⟨id⟩
instance s_jnC {I : Gs → Prop} : Stp (JnK I AF .cnt g) (AF .cnt g) := ⟨id⟩
/-- what holds behind the first statement, however it was left -/
theorem wp_jn (I : Gs → Prop) (h1 : Wp (a g) (JnK I AF) B) (h2 : ∀ g, I g → Wp (b g) AF B) : Wp (seqM a b g) AF B := by
  refine Stp.go (h1.mono (fun fl g q => ?_) fun _ _ z => z)
  cases fl with
  | next => exact h2 g q
  | ret o => exact q
  | brk => exact q
  | cnt => exact q
theorem isJn {c : M Bool} {p q : M Fl} (h : Wp (seqM (ifM c p q) a g) AF B) : Wp (seqM (ifM c p q) a g) AF B := h
def AppK (i : Nat) (A : O → Gs → Prop) (o : O) (g : Gs) : Prop := ∃ os1, g[i]? = some (some (.lst os1)) ∧ os1.length < 16777216 ∧ A (.d .none) (g.set i (some (.lst (os1 ++ [o]))))
instance s_app [h : Get g i (some (.lst os))] : Stp (Wp (appLM i m g) A B) (Wp (m g) (AppK i A) B) := ⟨fun k => z_app h.get k⟩
class SnC (os : List O) (o : O) (os' : outParam (List O)) : Prop where
  eq : os ++ [o] = os'
instance (priority := 900) snD : SnC os o (os ++ [o]) := ⟨rfl⟩
instance sn0 : SnC [] o [o] := ⟨rfl⟩
instance snS {p : O} {os' : List O} [h : SnC os o os'] : SnC (p :: os) o (p :: os') := ⟨by rw [List.cons_append, h.eq]⟩
instance s_appK {os' : List O} [h : Get g i (some (.lst os))] [s : SnC os o os'] [p : Put g i (some (.lst os')) g'] : Stp (AppK i A o g) (Sd (os.length < 16777216) (A (.d .none) g')) := ⟨fun k => ⟨os, h.get, k.1, by rw [s.eq, p.put]; exact k.2⟩⟩
def ExtK (i : Nat) (A : O → Gs → Prop) (o : O) (g : Gs) : Prop := ∃ os1 ds, g[i]? = some (some (.lst os1)) ∧ asL o = some ds ∧ os1.length + ds.length ≤ 16777216 ∧ A (.d .none) (g.set i (some (.lst (os1 ++ ds.map O.d))))
instance s_ext [h : Get g i (some (.lst os))] : Stp (Wp (extLM i m g) A B) (Wp (m g) (ExtK i A) B) := ⟨fun k => z_ext h.get k⟩
instance s_extK {qs rs : List O} [h : Get g i (some (.lst os))] [l : LsC o ds] [pm : MpC ds qs] [pa : AppC os qs rs] [p : Put g i (some (.lst rs)) g'] : Stp (ExtK i A o g) (Sd (os.length + ds.length ≤ 16777216) (A (.d .none) g')) := ⟨fun k => ⟨os, ds, h.get, l.eq, k.1, by rw [pm.eq, pa.eq, p.put]; exact k.2⟩⟩
instance s_pop0 {p : O} [h : Get g i (some (.lst (os ++ [p])))] [q : Put g i (some (.lst os)) g'] : Stp (Wp (pop0M i g) A B) (A p g') := ⟨fun k => z_pop h.get (by simp) (by rw [List.dropLast_concat]; exact q.put) k⟩
def PopK (i : Nat) (A : O → Gs → Prop) : O → Gs → Prop
  | .d (.int x), g1 => ∃ os1 j o, g1[i]? = some (some (.lst os1)) ∧ (-9223372036854775808 ≤ x ∧ x < 9223372036854775808) ∧ seqIndex? x os1.length = some j ∧ os1[j]? = some o ∧ A o (g1.set i (some (.lst (os1.eraseIdx j))))
  | _, _ => False
instance s_popL [h : Get g i (some (.lst os))] : Stp (Wp (popLM i m g) A B) (Wp (m g) (PopK i A) B) := ⟨fun k => z_popAt h.get (k.mono (fun o g1 q => by cases o with
  | d z => cases z <;> exact q
  | _ => exact q) fun _ _ z => z)⟩
instance s_popK0 {p : O} [h : Get g i (some (.lst (p :: os)))] [q : Put g i (some (.lst os)) g'] : Stp (PopK i A (.d (.int 0)) g) (A p g') := ⟨fun k => ⟨p :: os, 0, p, h.get, by omega, by simp [seqIndex?], rfl, by rw [List.eraseIdx_zero, List.tail_cons, q.put]; exact k⟩⟩
def IsK (i : Nat) (o : O) (AU : Unit → Gs → Prop) : O → Gs → Prop
  | .d (.int x), g => ∃ os j, g[i]? = some (some (.lst os)) ∧ ixN os.length x = some j ∧ AU () (g.set i (some (.lst (os.set j o))))
  | _, _ => False
variable {AU : Unit → Gs → Prop}
instance s_ixSet {p : O} [h : Get g i (some p)] : Stp (Wp (ixSetM i m o g) AU B) (Wp (m g) (IsK i o AU) B) := ⟨fun k => by
  unfold ixSetM
  rw [h.get]
  unfold ixSet1
  refine (wp_bd (m := m)).mpr (k.mono (fun oi g1 q => ?_) fun _ _ z => z)
  refine (wp_bd (m := asI oi)).mpr ?_
  rw [wp_asI]
  unfold IsK at q
  split at q
  · obtain ⟨os, j, e1, e2, q⟩ := q
    simp only [e1, e2]
    exact q
  · exact q.elim⟩
class SetC (os : List O) (x : Int) (o : O) (os' : outParam (List O)) : Prop where
  eq : ∃ j, ixN os.length x = some j ∧ os.set j o = os'
instance sIt0 {p : O} : SetC (p :: os) 0 o (o :: os) := ⟨0, by simp [ixN], rfl⟩
instance sIt1 {p q : O} : SetC (p :: q :: os) 1 o (p :: o :: os) := ⟨1, by simp [ixN]; omega, rfl⟩
instance sIt2 {p q r : O} : SetC (p :: q :: r :: os) 2 o (p :: q :: o :: os) := ⟨2, by simp [ixN]; omega, rfl⟩
instance s_isK {os' : List O} [h : Get g i (some (.lst os))] [s : SetC os x o os'] [p : Put g i (some (.lst os')) g'] : Stp (IsK i o AU (.d (.int x)) g) (AU () g') := ⟨fun k => by
  obtain ⟨j, e1, e2⟩ := s.eq
  exact ⟨os, j, h.get, e1, by rw [e2, p.put]; exact k⟩⟩
variable {s : Str}
def AsSK (A : Str → Gs → Prop) : O → Gs → Prop
  | .d (.str x), g => A x g
  | _, _ => False
instance s_asSK {A : Str → Gs → Prop} : Stp (AsSK A (.d (.str s)) g) (A s g) := ⟨id⟩
def AsIK (A : Int → Gs → Prop) : O → Gs → Prop
  | .d (.int x), g => A x g
  | _, _ => False
instance s_asIK {A : Int → Gs → Prop} : Stp (AsIK A (.d (.int x)) g) (A x g) := ⟨id⟩
instance s_join : Stp (Wp (joinM m n g) A B) (Wp (m g) (AsSK fun s g1 => Wp (n g1) (fun o g2 => optW (joinB s o) fun r => A r g2) B) B) := ⟨fun k => by
  unfold joinM
  refine (wp_bd (m := m)).mpr (k.mono (fun oi g1 q => ?_) fun _ _ z => z)
  refine (wp_bd (m := asS oi)).mpr ?_
  rw [wp_asS]
  unfold AsSK at q
  split at q
  · refine (wp_bd (m := n)).mpr (q.mono (fun o g2 q => ?_) fun _ _ z => z)
    rw [wp_opt]
    exact q
  · exact q.elim⟩
instance o_join {ss : List Str} [l : LtC o ds] [q : StsC ds ss] : Stp (optW (joinB s o) AO) (Sd ((ss.map (·.length)).sum + ss.length * s.length ≤ 16777216) (AO (.d (.str (Txt.join s ss))))) := ⟨fun k => by
  have e : joinB s o = some (.d (.str (Txt.join s ss))) := by
    have := lenOk_of k.1
    simp only [joinB, l.eq, q.eq, strsOf_map, this, if_true]
  rw [e]
  exact k.2⟩
instance s_up : Stp (Wp (upM m g) A B) (Wp (m g) (AsSK fun s g1 => Sd (s.length ≤ 5592405) (A (.d (.str (Txt.upper s))) g1)) B) := ⟨fun k => by
  unfold upM
  refine (wp_bd (m := m)).mpr (k.mono (fun oi g1 q => ?_) fun _ _ z => z)
  refine (wp_bd (m := asS oi)).mpr ?_
  rw [wp_asS]
  unfold AsSK at q
  split at q
  · show Wp (gdM _ (M.ret _) _) A B
    rw [wp_gd]
    exact ⟨by simpa using q.1, q.2⟩
  · exact q.elim⟩
class IsiC (n : String) (o : O) (b : outParam Bool) : Prop where
  ne : tyN o ≠ ""
  eq : kitB (tyN o) n = some b
theorem kit1 : kitB "int" "int" = some true := by decide +kernel
theorem kit2 : kitB "int" "bool" = some false := by decide +kernel
theorem kit3 : kitB "bool" "bool" = some true := by decide +kernel
theorem kit4 : kitB "bool" "int" = some true := by decide +kernel
theorem kit5 : kitB "str" "str" = some true := by decide +kernel
theorem kit6 : kitB "tuple" "tuple" = some true := by decide +kernel
theorem kit7 : kitB "list" "list" = some true := by decide +kernel
theorem kit8 : kitB "str" "bool" = some false := by decide +kernel
theorem kit9 : kitB "str" "tuple" = some false := by decide +kernel
theorem kit10 : kitB "tuple" "str" = some false := by decide +kernel
theorem kit11 : kitB "tuple" "list" = some false := by decide +kernel
theorem kit13 : kitB "tuple" "bool" = some false := by decide +kernel
theorem kit14 : kitB "bool" "tuple" = some false := by decide +kernel
theorem kit15 : kitB "bool" "str" = some false := by decide +kernel
theorem kit16 : kitB "int" "tuple" = some false := by decide +kernel
theorem kit17 : kitB "int" "str" = some false := by decide +kernel
instance isi1 : IsiC "int" (.d (.int x)) true := ⟨by simp [tyN], kit1⟩
instance isi2 : IsiC "bool" (.d (.int x)) false := ⟨by simp [tyN], kit2⟩
instance isi3 {b : Bool} : IsiC "bool" (.d (.bool b)) true := ⟨by simp [tyN], kit3⟩
instance isi4 {b : Bool} : IsiC "int" (.d (.bool b)) true := ⟨by simp [tyN], kit4⟩
instance isi5 : IsiC "str" (.d (.str s)) true := ⟨by simp [tyN], kit5⟩
instance isi6 : IsiC "tuple" (.d (.tuple ds)) true := ⟨by simp [tyN], kit6⟩
instance isi7 : IsiC "list" (.lst os) true := ⟨by simp [tyN], kit7⟩
instance isi7' : IsiC "list" (.d (.list ds)) true := ⟨by simp [tyN], kit7⟩
instance isi8 : IsiC "bool" (.d (.str s)) false := ⟨by simp [tyN], kit8⟩
instance isi9 : IsiC "tuple" (.d (.str s)) false := ⟨by simp [tyN], kit9⟩
instance isi10 : IsiC "str" (.d (.tuple ds)) false := ⟨by simp [tyN], kit10⟩
instance isi11 : IsiC "list" (.d (.tuple ds)) false := ⟨by simp [tyN], kit11⟩
instance isi13 : IsiC "bool" (.d (.tuple ds)) false := ⟨by simp [tyN], kit13⟩
instance isi14 {b : Bool} : IsiC "tuple" (.d (.bool b)) false := ⟨by simp [tyN], kit14⟩
instance isi15 {b : Bool} : IsiC "str" (.d (.bool b)) false := ⟨by simp [tyN], kit15⟩
instance isi16 : IsiC "tuple" (.d (.int x)) false := ⟨by simp [tyN], kit16⟩
instance isi17 : IsiC "str" (.d (.int x)) false := ⟨by simp [tyN], kit17⟩
def IsiK (n : String) (A : O → Gs → Prop) (o : O) (g : Gs) : Prop := tyN o ≠ "" ∧ optW (kitB (tyN o) n) fun b => A (.d (.bool b)) g
instance s_isi {nm : String} : Stp (Wp (isiM nm m g) A B) (Wp (m g) (IsiK nm A) B) := ⟨fun k => by
  rw [wp_isi]
  exact k⟩
instance s_isiK {nm : String} {b : Bool} [c : IsiC nm o b] : Stp (IsiK nm A o g) (A (.d (.bool b)) g) := ⟨fun k => ⟨c.ne, by rw [c.eq]; exact k⟩⟩
instance s_idx : Stp (Wp (idxM m n g) A B) (Wp (m g) (fun o g1 => optW (ixdOf o) fun i => Wp (n g1) (fun x g2 => optW (idxV i x) fun r => A r g2) B) B) := ⟨fun k => by rw [wp_idx]; exact k⟩
instance o_ixdT {P : Ixd → Prop} {ss : List Str} [q : StsC ds ss] : Stp (optW (ixdOf (.d (.tuple ds))) P) (Sd (ss ≠ []) (P (.t ss))) := ⟨fun k => by
  have e : ixdOf (.d (.tuple ds)) = some (.t ss) := by
    have h1 := k.1
    unfold ixdOf
    simp only [q.eq, strsOf_map]
    cases ss with
    | nil => exact absurd rfl h1
    | cons a r => rfl
  rw [e]; exact k.2⟩
instance o_ixdS {P : Ixd → Prop} : Stp (optW (ixdOf (.d (.str s))) P) (P (.s s)) := ⟨fun k => k⟩
theorem idxOf_find {α : Type} [BEq α] [LawfulBEq α] {z : α} : ∀ {ys : List α}, z ∈ ys → ys.findIdx? (fun y => y == z) = some (ys.idxOf z)
  | [], h => by cases h
  | y :: r, h => by
    by_cases e : y = z
    · subst e; simp [List.findIdx?_cons]
    · have hr : z ∈ r := by
        rcases List.mem_cons.mp h with h | h
        · exact absurd h.symm e
        · exact h
      simp [List.findIdx?_cons, List.idxOf_cons, e, idxOf_find hr, beq_eq_false_iff_ne.mpr e]
instance o_idxT {ss : List Str} : Stp (optW (idxV (.t ss) (.d (.str s))) AO) (Sd (s ∈ ss) (AO (.d (.int (ss.idxOf s))))) := ⟨fun k => by
  have e : idxV (.t ss) (.d (.str s)) = some (.d (.int (ss.idxOf s))) := by
    simp only [idxV, idxOf_find k.1]
  rw [e]; exact k.2⟩
end
end Z
namespace Z
open PySem PySem.Spec L2
abbrev NoB : Exn → Gs → Prop := fun _ _ => False
def ForI {ι : Type} (I : List ι → Gs → Prop) (r : List ι) (A : Fl → Gs → Prop) : Fl → Gs → Prop
  | .next, g => I r g
  | .cnt, g => I r g
  | .brk, g => A .next g
  | .ret o, g => A (.ret o) g
def WhI (I : Nat → Gs → Prop) (k : Nat) (A : Fl → Gs → Prop) : Fl → Gs → Prop
  | .next, g => ∃ j, j < k ∧ I j g
  | .cnt, g => ∃ j, j < k ∧ I j g
  | .brk, g => A .next g
  | .ret o, g => A (.ret o) g
def LcI {ι : Type} (I : List ι → List O → Gs → Prop) (vs : List Nat) (r : List ι) (acc : List O) (g : Gs) : Prop := I r acc (wipeG g vs)
def LcJ {ι : Type} (I : List ι → List O → Gs → Prop) (vs : List Nat) (r : List ι) (acc : List O) (o : O) (g : Gs) : Prop := I r (acc ++ [o]) (wipeG g vs)
section
variable {ι : Type} {AF : Fl → Gs → Prop} {AL : List O → Gs → Prop} {B : Exn → Gs → Prop} {g g' : Gs} {m : M O} {o : O} {os : List O} {a : M Fl} {c : M Bool} {set : O → M Unit} {vs : List Nat}
instance s_foN {I : List ι → Gs → Prop} {r : List ι} : Stp (ForI I r AF .next g) (I r g) := ⟨id⟩
instance s_foC {I : List ι → Gs → Prop} {r : List ι} : Stp (ForI I r AF .cnt g) (I r g) := ⟨id⟩
instance s_foB {I : List ι → Gs → Prop} {r : List ι} : Stp (ForI I r AF .brk g) (AF .next g) := ⟨id⟩
instance s_foR {I : List ι → Gs → Prop} {r : List ι} : Stp (ForI I r AF (.ret o) g) (AF (.ret o) g) := ⟨id⟩
instance s_whN {I : Nat → Gs → Prop} {k : Nat} : Stp (WhI I k AF .next g) (∃ j, j < k ∧ I j g) := ⟨id⟩
instance s_whC {I : Nat → Gs → Prop} {k : Nat} : Stp (WhI I k AF .cnt g) (∃ j, j < k ∧ I j g) := ⟨id⟩
instance s_whB {I : Nat → Gs → Prop} {k : Nat} : Stp (WhI I k AF .brk g) (AF .next g) := ⟨id⟩
instance s_whR {I : Nat → Gs → Prop} {k : Nat} : Stp (WhI I k AF (.ret o) g) (AF (.ret o) g) := ⟨id⟩
instance s_lcI {I : List ι → List O → Gs → Prop} {r : List ι} [w : WipC g vs g'] : Stp (LcI I vs r os g) (I r os g') := ⟨fun h => by unfold LcI; rw [w.eq]; exact h⟩
instance s_lcJ {I : List ι → List O → Gs → Prop} {r : List ι} {os' : List O} [w : WipC g vs g'] [s : SnC os o os'] : Stp (LcJ I vs r os o g) (I r os' g') := ⟨fun h => by unfold LcJ; rw [w.eq, s.eq]; exact h⟩
/-- a walk over a row of things -/
theorem wp_forI (e : ι → PyData) (I : List ι → Gs → Prop)
    (he : ∀ g, I [] g → AF .next g)
    (hs : ∀ x r g, I (x :: r) g → Wp (set (.d (e x)) g) (fun _ g1 => Wp (a g1) (ForI I r AF) B) B) : ∀ {l : List ι} {g : Gs}, I l g → Wp (forM set a (l.map e) g) AF B
  | [], g, h => he g h
  | x :: r, g, h => by
    rw [List.map_cons]
    refine Stp.go ((hs x r g h).mono (fun _ g1 q => q.mono (fun fl g2 z => ?_) fun _ _ z => z) fun _ _ z => z)
    cases fl with
    | next => exact wp_forI e I he hs z
    | cnt => exact wp_forI e I he hs z
    | brk => exact z
    | ret o => exact z
theorem wp_whI (I : Nat → Gs → Prop)
    (hs : ∀ k g, I k g → Wp (c g) (fun b g1 => IfK b (Wp (a g1) (WhI I k AF) B) (AF .next g1)) B) {n k : Nat} {g : Gs} (hk : k < n) (h : I k g) : Wp (whM c a n g) AF B :=
  wp_while I (fun k g q => (hs k g q).mono (fun b g1 z => by
    cases b with
    | false => exact z
    | true => exact Wp.mono z (fun fl g2 z => by cases fl <;> exact z) fun _ _ z => z) fun _ _ z => z) n k g hk h
/-- a comprehension that changes no name but the box: what comes are things of a kind -/
def LcB {κ : Type} (e : κ → PyData) (P : κ → Prop) (G : Gs → Prop) (vs : List Nat) (o : O) (g : Gs) : Prop := ∃ z, o = .d (e z) ∧ P z ∧ G (wipeG g vs)
theorem wp_lcB {κ : Type} (e : κ → PyData) (P : κ → Prop) (G : Gs → Prop) (he : ∀ (l : List κ) g, l.length = ds.length → (∀ z ∈ l, P z) → G g → AL ((l.map e).map O.d) g)
    (hs : ∀ d ∈ ds, ∀ g, G g → Wp (set (.d d) g) (fun _ g1 => Wp (c g1) (fun b g2 => IfK b (Wp (m g2) (LcB e P G vs) NoB) False) NoB) NoB) {g : Gs} (h : G g) : Wp (lcM vs set c m ds [] g) AL NoB := by
  have main : ∀ (r : List PyData) (l : List κ) (g : Gs), (∀ d ∈ r, d ∈ ds) → l.length + r.length = ds.length → (∀ z ∈ l, P z) → G g → Wp (lcM vs set c m r ((l.map e).map O.d) g) AL NoB := by
    intro r
    induction r with
    | nil => exact fun l g _ hl hp hg => he l g (by simpa using hl) hp hg
    | cons x r ih =>
      intro l g hm hl hp hg
      refine Stp.go ((hs x (hm x (by simp)) g hg).mono (fun _ g1 q => q.mono (fun b g2 z => ?_) fun _ _ z => z) fun _ _ z => z)
      cases b with
      | false => exact z.elim
      | true =>
        refine Wp.mono z (fun o g3 z => ?_) fun _ _ z => z
        obtain ⟨w, rfl, hw, hg3⟩ := z
        have := ih (l ++ [w]) (wipeG g3 vs) (fun d m => hm d (by simp [m])) (by simp at hl ⊢; omega) (by simpa [or_imp, forall_and] using ⟨hp, hw⟩) hg3
        simpa [LcX, LcG] using this
  exact main ds [] g (fun d m => m) (by simp) (by simp) h
/-- a comprehension that changes nothing: each thing looked at by itself -/
def LcP (o' : O) (g0 : Gs) (vs : List Nat) (o : O) (g : Gs) : Prop := o = o' ∧ wipeG g vs = g0
instance s_lcP {o : O} [w : WipC g vs g'] : Stp (LcP o g' vs o g) True := ⟨fun _ => ⟨rfl, w.eq⟩⟩
theorem wp_lcF (e : ι → PyData) (f : ι → O) : ∀ {l : List ι} {acc : List O} {g : Gs}
    (hs : ∀ x ∈ l, Wp (set (.d (e x)) g) (fun _ g1 => Wp (c g1) (fun b g2 => IfK b (Wp (m g2) (LcP (f x) g vs) NoB) False) NoB) NoB)
    (k : AL (acc ++ l.map f) g), Wp (lcM vs set c m (l.map e) acc g) AL NoB
  | [], acc, g, hs, k => by
    show AL acc g
    simpa using k
  | x :: r, acc, g, hs, k => by
    rw [List.map_cons]
    refine Stp.go ((hs x (by simp)).mono (fun _ g1 q => q.mono (fun b g2 z => ?_) fun _ _ z => z) fun _ _ z => z)
    cases b with
    | false => exact z.elim
    | true =>
      refine Wp.mono z (fun o g3 z => ?_) fun _ _ z => z
      obtain ⟨rfl, e3⟩ := z
      show Wp (lcM vs set c m (r.map e) (acc ++ [f x]) (wipeG g3 vs)) AL NoB
      rw [e3]
      exact wp_lcF e f (fun y hy => hs y (by simp [hy])) (by simpa using k)
/-- and with a test -/
def LcQ (g0 : Gs) (vs : List Nat) (g : Gs) : Prop := wipeG g vs = g0
instance s_lcQ [w : WipC g vs g'] : Stp (LcQ g' vs g) True := ⟨fun _ => w.eq⟩
theorem wp_lcT (e : ι → PyData) (p : ι → Bool) (f : ι → O) : ∀ {l : List ι} {acc : List O} {g : Gs}
    (hs : ∀ x ∈ l, Wp (set (.d (e x)) g) (fun _ g1 => Wp (c g1) (fun b g2 => b = p x ∧ IfK (p x) (Wp (m g2) (LcP (f x) g vs) NoB) (LcQ g vs g2)) NoB) NoB)
    (k : AL (acc ++ (l.filter p).map f) g), Wp (lcM vs set c m (l.map e) acc g) AL NoB
  | [], acc, g, hs, k => by
    show AL acc g
    simpa using k
  | x :: r, acc, g, hs, k => by
    rw [List.map_cons]
    refine Stp.go ((hs x (by simp)).mono (fun _ g1 q => q.mono (fun b g2 z => ?_) fun _ _ z => z) fun _ _ z => z)
    obtain ⟨rfl, z⟩ := z
    rw [List.filter_cons] at k
    cases hp : p x with
    | false =>
      rw [hp] at z k
      show Wp (lcM vs set c m (r.map e) acc (wipeG g2 vs)) AL NoB
      have z' : wipeG g2 vs = g := z
      rw [z']
      exact wp_lcT e p f (fun y hy => hs y (by simp [hy])) (by simpa using k)
    | true =>
      rw [hp] at z k
      refine Wp.mono (show Wp (m g2) (LcP (f x) g vs) NoB from z) (fun o g3 z => ?_) fun _ _ z => z
      obtain ⟨rfl, e3⟩ := z
      show Wp (lcM vs set c m (r.map e) (acc ++ [f x]) (wipeG g3 vs)) AL NoB
      rw [e3]
      exact wp_lcT e p f (fun y hy => hs y (by simp [hy])) (by simpa using k)
end
end Z
namespace Z
open PySem PySem.Spec L2
def L (s : Str) : List Nat := s.cps.toList
theorem L_len (s : Str) : (L s).length = s.length := by simp [L, Str.length]
theorem L_app (s t : Str) : L (s ++ t) = L s ++ L t := by
  show (s.cps ++ t.cps).toList = _
  simp [L]
theorem L_ext {s t : Str} (h : L s = L t) : s = t := by
  cases s; cases t
  simpa [L] using h
theorem L_one (c : Nat) : L ⟨#[c]⟩ = [c] := rfl
theorem L_cut (s : Str) (lo hi : Option Int) : L (cutS s lo hi) = cutD (L s) lo hi := by
  simp [L, cutS, cutD, Str.length]
theorem L_join (s : Str) : ∀ l : List Str, L (Txt.join s l) = ((l.map L).intersperse (L s)).flatten := by
  intro l
  show L (Builtin.Str.glued s l) = _
  rw [StrLaws.glued_eq_join]
  induction l with
  | nil => rfl
  | cons a r ih =>
    cases r with
    | nil => simp [Str.join]
    | cons b r =>
      rw [Str.join, L_app, L_app, ih]
      simp [List.intersperse]
      intro h; cases h
theorem L_join0 {s : Str} (h : L s = []) (l : List Str) : L (Txt.join s l) = (l.map L).flatten := by
  rw [L_join, h]
  induction l with
  | nil => rfl
  | cons a r ih =>
    cases r with
    | nil => simp
    | cons b r => simpa [List.intersperse] using ih
instance allMF {ι : Type} {h : ι → PyData} {l : List ι} : AllC (l.map fun x => O.d (h x)) (l.map h) := ⟨by
  have := allD_map (l.map h)
  rwa [List.map_map] at this⟩
instance itsMF {ι : Type} {h : ι → Int} {l : List ι} : ItsC (l.map fun x => PyData.int (h x)) (l.map h) := ⟨by rw [List.map_map]; rfl⟩
instance stsMF {ι : Type} {h : ι → Str} {l : List ι} : StsC (l.map fun x => PyData.str (h x)) (l.map h) := ⟨by rw [List.map_map]; rfl⟩
instance blsMF {ι : Type} {h : ι → Bool} {l : List ι} : BlsC (l.map fun x => PyData.bool (h x)) (l.map h) := ⟨by rw [List.map_map]; rfl⟩
theorem cutD_sub {α : Type} (l : List α) (lo hi : Option Int) : ∀ x ∈ cutD l lo hi, x ∈ l := fun x h => List.mem_of_mem_drop (List.mem_of_mem_take h)
end Z
namespace Z
open PySem PySem.Spec L2
section
variable {A : O → Gs → Prop} {AU : Unit → Gs → Prop} {B : Exn → Gs → Prop} {g g' : Gs} {m n : M O} {i : Nat} {o : O} {os : List O} {AO : O → Prop} {x : Int} {ds es : List PyData} {d : PyData}
instance s_tupG {f : List PyData → M Unit} : Stp (Wp (tupG f (.d (.tuple ds)) g) AU B) (Wp (f ds g) AU B) := ⟨fun h => h⟩
instance s_consG {f : List PyData → M Unit} [p : Put g i (some (.d d)) g'] : Stp (Wp (consG i f (d :: ds) g) AU B) (Wp (f ds g') AU B) := ⟨fun h => by
  show Wp (M.bd (setM i (.d d)) (fun _ => f ds) g) AU B
  rw [wp_bd]
  exact z_set p.put h⟩
instance s_nilG : Stp (Wp (nilG [] g) AU B) (AU () g) := ⟨fun h => h⟩
/-- a branch whose test changes nothing, by what the test tells -/
def CndK (v : Bool) (g : Gs) (b : Bool) (g' : Gs) : Prop := b = v ∧ g' = g
theorem CndK.mk {v b : Bool} {g : Gs} (h : b = v) : CndK v g b g := ⟨h, rfl⟩
theorem wp_ifB {α : Type} {c : M Bool} {p q : M α} {A : α → Gs → Prop} (v : Bool) (h : Wp (c g) (CndK v g) fun _ _ => False) (h1 : v = true → Wp (p g) A B) (h2 : v = false → Wp (q g) A B) : Wp (ifM c p q g) A B := by
  refine Stp.go (h.mono (fun b g1 e => ?_) fun _ _ z => z.elim)
  obtain ⟨rfl, rfl⟩ := e
  exact IfK.mk h1 h2
theorem wp_ifP {α : Type} {c : M Bool} {q r : M α} {A : α → Gs → Prop} (p : Prop) [Decidable p] (h : Wp (c g) (CndK (decide p) g) fun _ _ => False) (h1 : p → Wp (q g) A B) (h2 : ¬ p → Wp (r g) A B) : Wp (ifM c q r g) A B :=
  wp_ifB (decide p) h (fun e => h1 (of_decide_eq_true e)) fun e => h2 (of_decide_eq_false e)
instance o_timI {y : Int} : Stp (optW (timF [.d (.int x), .d (.int y)]) AO) (Sd (mulC x y = true) (AO (.d (.int (x * y))))) := ⟨fun h => z_timI h.1 h.2⟩
instance o_timB {b : Bool} {po : List O} [l : AllC os ds] [pm : MpC ds po] : Stp (optW (timF [.lst os, .d (.int (if b = true then 1 else 0))]) AO) (Sd (ds.length ≤ 16777216) (IfK b (AO (.lst po)) (AO (.lst [])))) := ⟨fun h => by
  rw [← pm.eq] at h
  have e : asL (.lst os) = some ds := by rw [asL, l.eq]
  cases b with
  | true => exact z_timL e (fun _ => .inl (by simp)) (by simp) (by simp) (by simpa using h.1) (by simpa using (show AO (.lst (ds.map O.d)) from h.2))
  | false => exact z_timL e (fun _ => .inl (by simp)) (by simp) (by simp) (by simp) (by simpa using (show AO (.lst []) from h.2))⟩
/-- what is had is frozen at once -/
def frzM (m : M O) : M O := M.bd m fun o g => match o.fz with
  | some x => .ok (.d x) g
  | none => .bad
def FrK (A : O → Gs → Prop) (o : O) (g : Gs) : Prop := optW o.fz fun x => A (.d x) g
instance s_frz : Stp (Wp (frzM m g) A B) (Wp (m g) (FrK A) B) := ⟨fun h => by
  unfold frzM
  refine (wp_bd (m := m)).mpr (h.mono (fun o g1 q => ?_) fun _ _ z => z)
  unfold FrK at q
  revert q
  cases o.fz with
  | none => exact fun q => q
  | some x => exact fun q => q⟩
instance s_frK [f : FzC o d] : Stp (FrK A o g) (A (.d d) g) := ⟨fun h => by unfold FrK; rw [f.eq]; exact h⟩
end
section
variable {X : Cx} {H H' : Hp} {Ex : List (Addr × HO)} {σ : St} {g : Gs} {T T' ws ws' : Roots} {W : WX} {pu pv : Bool} {e a b : Expr} {m : M O}
theorem ev_frz (h : Ev X W pu e m) : Ev X W pu e (frzM m) := by
  obtain ⟨t, h1, h2⟩ := h.ex
  refine ⟨t, h1, fun σ H Q g T Ex ws a w => h2 σ H Q g T Ex ws a (w.bd.imp (fun o g' k v H' s a' => ?_) fun _ _ k => k)⟩
  cases q : o.fz with
  | none => simp only [q] at k; exact k.elim
  | some x =>
    simp only [q] at k
    exact k v H' s (.ofTop a'.fit (a'.top.fz q))
end
end Z
namespace G
open PySem PySem.Spec L2 Z
local macro_rules | `(tactic| bv_omega) => `(tactic| repeat (first | with_reducible refine Stp.go ?_ | ((with_reducible refine Sd.mk ?_ ?_); focus (first | assumption | omega | exact Nat.zero_le _ | exact mulC_l | exact mulC_r | (simp only [List.length_cons, List.length_nil, List.length_map, List.length_append, Z.len_app]; omega) | (simp only [List.length_map, List.length_append, List.length_cons, List.length_nil, Z.intsF_len] at *; omega) | with_unfolding_all exact rfl | (refine powC_of ?_; omega) | assumption | exact List.mem_cons_self)) | with_reducible refine IfK.dt (by decide) ?_ | with_reducible refine IfK.df (by decide) ?_))
local macro_rules | `(tactic| array_get_dec) => `(tactic| repeat ((fail_if_success (with_reducible refine isJn ?_)); (first | with_reducible refine Stp.go ?_ | ((with_reducible refine Sd.mk ?_ ?_); focus (first | assumption | omega | exact Nat.zero_le _ | exact mulC_l | exact mulC_r | (simp only [List.length_cons, List.length_nil, List.length_map, List.length_append, Z.len_app]; omega) | (simp only [List.length_map, List.length_append, List.length_cons, List.length_nil, Z.intsF_len] at *; omega) | with_unfolding_all exact rfl | (refine powC_of ?_; omega) | assumption | exact List.mem_cons_self)) | with_reducible refine IfK.dt (by decide) ?_ | with_reducible refine IfK.df (by decide) ?_)))
local macro_rules | `(tactic| array_mem_dec) => `(tactic| (repeat' (first | (first | with_reducible refine Stp.go ?_ | ((with_reducible refine Sd.mk ?_ ?_); focus (first | assumption | omega | exact Nat.zero_le _ | exact mulC_l | exact mulC_r | (simp only [List.length_cons, List.length_nil, List.length_map, List.length_append, Z.len_app]; omega) | (simp only [List.length_map, List.length_append, List.length_cons, List.length_nil, Z.intsF_len] at *; omega) | with_unfolding_all exact rfl | (refine powC_of ?_; omega) | assumption | exact List.mem_cons_self)) | with_reducible refine IfK.dt (by decide) ?_ | with_reducible refine IfK.df (by decide) ?_) | refine IfK.dec (fun _ => ?_) (fun _ => ?_) | (refine CndK.mk ?_; first | rfl | (simp [*]; done) | (simp; omega) | (simp at *; done) | (simp at *; simp [*]; done) | (simp at *; omega)))))
local macro_rules | `(tactic| sizeOf_list_dec) => `(tactic| repeat ((fail_if_success (first | with_reducible refine isLc ?_ | with_reducible refine isFor ?_)); (first | with_reducible refine Stp.go ?_ | ((with_reducible refine Sd.mk ?_ ?_); focus (first | assumption | omega | exact Nat.zero_le _ | exact mulC_l | exact mulC_r | (simp only [List.length_cons, List.length_nil, List.length_map, List.length_append, Z.len_app]; omega) | (simp only [List.length_map, List.length_append, List.length_cons, List.length_nil, Z.intsF_len] at *; omega) | with_unfolding_all exact rfl | (refine powC_of ?_; omega) | assumption | exact List.mem_cons_self)) | with_reducible refine IfK.dt (by decide) ?_ | with_reducible refine IfK.df (by decide) ?_)))
def takenS : List Str := ["yes", "no", "not", "and", "or", "done", "then", "if", "while", "either", "often", "asks", "deeds", "keeps", "makes", "rests", "idles", "still", "never"]
theorem taken_eq : f_law_taken [] = .ok (.lst ((takenS.map PyData.str).map O.d)) [] := by rfl
theorem taken_len : ∀ z ∈ takenS, z.length ≤ 7 := by decide
instance s_taken {A : O → List O → Prop} {B : Exn → Prop} : Stp (FW (f_law_taken []) A B) (A (.lst ((takenS.map PyData.str).map O.d)) []) := ⟨fun h => by rw [taken_eq]; exact h⟩
instance s_take {c s : Int} {n : Int} {A : O → List O → Prop} {B : Exn → Prop} : Stp (FW (f_law_take [.lst [.d (.int c), .d (.int s)], .d (.int n)]) A B)
    (Sd (0 < n ∧ n < 18446744073709551616) (∀ (r c s : Int), 0 ≤ r → r < n → A (.d (.int r)) [.lst [.d (.int c), .d (.int s)], .d (.int n)])) := ⟨fun k => fw_take ⟨_, _, rfl⟩ k.1.1 k.1.2 fun r bx' hb a b => by
  obtain ⟨c, s, rfl⟩ := hb
  exact k.2 r c s a b⟩
theorem len_intsF (a : Int) (n : Nat) : (intsF a n).length = n := by simp [intsF]
/-- an item of a row, at a place that is there -/
theorem ix_any {α : Type} {e : α → PyData} {l : List α} {o : O} {x : Int} {A : O → Prop} (hl : asLT o = some (l.map e)) (h0 : 0 ≤ x) (h1 : x < l.length) (k : ∀ z ∈ l, A (.d (e z))) : optW (ixF [o, .d (.int x)]) A :=
  optW_ix hl h0 (by simpa using h1) fun y hy => by
    obtain ⟨z, hz, rfl⟩ := List.mem_map.mp hy
    exact k z hz
def lets : Str := "abcdefghijklmnopqrstuvwxyz"
def Low (z : Str) : Prop := ∀ c ∈ L z, c ∈ L lets
/-- a name -/
structure NmOk (z : Str) : Prop where
  pos : 0 < z.length
  le : z.length ≤ 5
  low : Low z
  free : z ∉ takenS
theorem low_app {s t : Str} (h : Low s) (k : Low t) : Low (s ++ t) := fun c m => by
  rw [L_app] at m
  rcases List.mem_append.mp m with m | m
  · exact h c m
  · exact k c m
theorem low_cut {s : Str} (h : Low s) (lo hi : Option Int) : Low (cutS s lo hi) := fun c m => h c (by rw [L_cut] at m; exact cutD_sub _ _ _ _ m)
theorem low_one {s : Str} (h : Low s) {c : Nat} (m : c ∈ s.cps.toList) : Low ⟨#[c]⟩ := fun d e => by
  rw [L_one, List.mem_singleton] at e
  subst e
  exact h _ m
theorem low_lets : Low lets := fun _ h => h
instance (z : Str) : Decidable (Low z) := inferInstanceAs (Decidable (∀ c ∈ L z, c ∈ L lets))
theorem taken_low : ∀ z ∈ takenS, Low z := by decide +kernel
theorem nm_of {z : Str} (h1 : z.length ≤ 5) (h2 : Low z) (h3 : ¬ z = "") (h4 : z ∉ takenS) : NmOk z := ⟨by
  apply Nat.pos_of_ne_zero
  intro e
  apply h3
  apply L_ext
  rw [List.eq_nil_of_length_eq_zero ((L_len z).trans e)]
  rfl, h1, h2, h4⟩
theorem fw_name {c s : Int} {A : O → List O → Prop} {B : Exn → Prop} (k : ∀ (z : Str) (c s : Int), NmOk z → A (.d (.str z)) [.lst [.d (.int c), .d (.int s)]]) : FW (f_law_name [.lst [.d (.int c), .d (.int s)]]) A B := by
  refine fwRun ?_
  unfold g_law_name
  bv_omega
  intro n c s h0 h1; bv_omega
  refine Sd.mk (by rw [len_intsF]; omega) ?_
  bv_omega
  refine wp_lcB PyData.str (fun z => z.length = 1 ∧ Low z) (fun g => ∃ c s : Int, g = [some (.lst [.d (.int c), .d (.int s)]), some (.d (.str "abcdefghijklmnopqrstuvwxyz")), none, none, none, none, none]) ?_ ?_ ⟨_, _, rfl⟩
  · rintro l g hl hp ⟨c, s, rfl⟩
    rw [len_intsF] at hl
    have z0 : (Str.ofString "").length = 0 := by decide
    have hsum : (l.map (·.length)).sum = l.length := by
      clear hl
      induction l with
      | nil => rfl
      | cons a r ih => simp [(hp a (by simp)).1, ih fun z hz => hp z (by simp [hz])]; omega
    have hj : (Txt.join "" l).length = l.length := PySem.W.KT.join_ones l fun a m => (hp a m).1
    have hlow : Low (Txt.join "" l) := fun c m => by
      rw [L_join0 rfl] at m
      obtain ⟨b, hb, m⟩ := List.mem_flatten.mp m
      obtain ⟨z, hz, rfl⟩ := List.mem_map.mp hb
      exact (hp z hz).2 c m
    bv_omega
    refine Sd.mk (by rw [hsum, z0]; omega) ?_
    generalize Txt.join "" l = z at hj hlow
    have hz1 : 1 ≤ z.length := by omega
    have hz5 : z.length ≤ 5 := by omega
    array_get_dec
    refine wp_jn (fun g => ∃ (c s : Int) (z : Str) (o3 o4 o5 : Option O), z.length ≤ 5 ∧ Low z ∧ g = [some (.lst [.d (.int c), .d (.int s)]), some (.d (.str "abcdefghijklmnopqrstuvwxyz")), some (.d (.str z)), o3, o4, o5, none]) ?_ ?_
    · bv_omega
      intro m c s h2 h3; bv_omega
      refine IfK.dec (fun _ => ?_) (fun _ => ?_)
      · bv_omega
        intro r c s h4 h5; bv_omega
        refine ix_any (e := PyData.str) (l := takenS) (asLT_d (allD_map _)) h4 h5 fun w hw => ?_
        have w7 := taken_len w hw
        have wl := taken_low w hw
        bv_omega
        intro at1 c s h6 h7; bv_omega
        have l1 := len_cut w none (some at1)
        have l2 := len_cut w (some at1) none
        have l3 := len_cut w (some (at1 + 1)) none
        bv_omega
        refine optW_ixS (by omega) (by decide) (by omega) fun q hq => ?_
        have l4 : (⟨#[q]⟩ : Str).length = 1 := rfl
        have lq := low_one hlow hq
        bv_omega
        refine optW_ixS (by omega) (by decide) (by omega) fun q2 hq2 => ?_
        have l5 : (⟨#[q2]⟩ : Str).length = 1 := rfl
        have lq2 := low_one hlow hq2
        bv_omega
        intro r c s h8 h9; bv_omega
        refine ix_any (e := PyData.str) (l := [_, _, _]) rfl h8 h9 fun y hy => ?_
        have hx' : y.length ≤ 30 ∧ Low y := by
          simp only [List.mem_cons, List.not_mem_nil, or_false] at hy
          rcases hy with rfl | rfl | rfl
          · exact ⟨by simp only [len_app]; omega, low_app (low_cut wl _ _) (low_cut wl _ _)⟩
          · exact ⟨by simp only [len_app]; omega, low_app (low_app (low_cut wl _ _) lq) (low_cut wl _ _)⟩
          · exact ⟨by simp only [len_app]; omega, low_app (low_app (low_cut wl _ _) lq2) (low_cut wl _ _)⟩
        obtain ⟨y1, y2⟩ := hx'
        bv_omega
        exact ⟨c, s, _, _, _, _, len_cutHi y 5, low_cut y2 _ _, rfl⟩
      · bv_omega
        exact ⟨c, s, z, _, _, _, hz5, hlow, rfl⟩
    · rintro g ⟨c, s, z, o3, o4, o5, hz, hlow, rfl⟩
      refine wp_jn (fun g => ∃ (c s : Int) (z : Str), z.length ≤ 5 ∧ Low z ∧ g = [some (.lst [.d (.int c), .d (.int s)]), some (.d (.str "abcdefghijklmnopqrstuvwxyz")), some (.d (.str z)), o3, o4, o5, none]) ?_ ?_
      · bv_omega
        intro m c s h2 h3; bv_omega
        refine IfK.dec (fun _ => ?_) (fun _ => ?_)
        · bv_omega
          intro r c s h4 h5; bv_omega
          refine ix_any (e := PyData.str) (l := ["do", "ask"]) rfl h4 h5 fun y hy => ?_
          have hx' : y.length ≤ 5 ∧ Low y := by
            have : ∀ y ∈ ([Str.ofString "do", Str.ofString "ask"] : List Str), y.length ≤ 5 ∧ Low y := by decide +kernel
            exact this y hy
          bv_omega
          exact ⟨c, s, y, hx'.1, hx'.2, rfl⟩
        · bv_omega
          exact ⟨c, s, z, hz, hlow, rfl⟩
      · rintro g ⟨c, s, z, hz, hlow, rfl⟩
        have hq : NmOk "q" := ⟨by decide, by decide, by decide +kernel, by decide +kernel⟩
        refine wp_jn (fun g => ∃ (z : Str), NmOk z ∧ g = [some (.lst [.d (.int c), .d (.int s)]), some (.d (.str "abcdefghijklmnopqrstuvwxyz")), some (.d (.str z)), o3, o4, o5, none]) ?_ ?_
        · bv_omega
          refine IfK.dec (fun _ => ?_) (fun he => ?_)
          · bv_omega
            exact ⟨_, hq, rfl⟩
          · bv_omega
            refine IfK.dec (fun _ => ?_) (fun hi => ?_)
            · bv_omega
              exact ⟨_, hq, rfl⟩
            · bv_omega
              exact ⟨_, nm_of hz hlow he hi, rfl⟩
        · rintro g ⟨z, hz, rfl⟩
          bv_omega
          exact k _ _ _ hz
  · rintro d hd g ⟨c, s, rfl⟩
    bv_omega
    intro m c s h2 h3; bv_omega
    refine optW_ixS (by decide) h2 h3 fun x hx => ?_
    exact ⟨⟨#[x]⟩, rfl, ⟨rfl, low_one low_lets hx⟩, c, s, rfl⟩
instance s_name {c s : Int} {A : O → List O → Prop} {B : Exn → Prop} : Stp (FW (f_law_name [.lst [.d (.int c), .d (.int s)]]) A B) (∀ (z : Str) (c s : Int), NmOk z → A (.d (.str z)) [.lst [.d (.int c), .d (.int s)]]) := ⟨fw_name⟩
theorem fw_box {ns : List Int} {i : Int} (hi : 0 ≤ i) {A : O → List O → Prop} {B : Exn → Prop} (k : ∀ c s : Int, A (.lst [.d (.int c), .d (.int s)]) [.gL (ns.map PyData.int), .d (.int i)]) : FW (f_law_box [.gL (ns.map PyData.int), .d (.int i)]) A B := by
  refine fwRun ?_
  unfold g_law_box
  array_get_dec
  refine wp_jn (fun g => ∃ c : Int, g = [some (.gL (ns.map PyData.int)), some (.d (.int i)), some (.d (.int c)), none]) ?_ ?_
  · bv_omega
    refine IfK.dec (fun h1 => ?_) (fun h1 => ?_)
    · bv_omega
      refine ix_any (e := PyData.int) (l := ns) rfl hi (by simpa using h1) fun z _ => ?_
      bv_omega
      exact ⟨_, rfl⟩
    · bv_omega
      refine IfK.dec (fun h2 => ?_) (fun h2 => ?_)
      · bv_omega
        refine ix_any (e := PyData.int) (l := ns) rfl (Int.emod_nonneg _ (by omega)) (by have := Int.emod_lt_of_pos i h2; simpa using this) fun z _ => ?_
        bv_omega
        exact ⟨_, rfl⟩
      · bv_omega
        exact ⟨_, rfl⟩
  · rintro g ⟨c, rfl⟩
    array_get_dec
    refine wp_jn (fun g => ∃ c s : Int, g = [some (.gL (ns.map PyData.int)), some (.d (.int i)), some (.d (.int c)), some (.d (.int s))]) ?_ ?_
    · bv_omega
      refine IfK.dec (fun h1 => ?_) (fun h1 => ?_)
      · bv_omega
        exact ⟨_, _, rfl⟩
      · bv_omega
        exact ⟨_, _, rfl⟩
    · rintro g ⟨c, s, rfl⟩
      bv_omega
      exact k _ _
instance s_box {ns : List Int} {i : Int} {A : O → List O → Prop} {B : Exn → Prop} : Stp (FW (f_law_box [.gL (ns.map PyData.int), .d (.int i)]) A B) (Sd (0 ≤ i) (∀ c s : Int, A (.lst [.d (.int c), .d (.int s)]) [.gL (ns.map PyData.int), .d (.int i)])) := ⟨fun k => fw_box k.1 k.2⟩
end G
namespace G
open PySem PySem.Spec L2 Z
local macro_rules | `(tactic| bv_omega) => `(tactic| repeat (first | with_reducible refine Stp.go ?_ | ((with_reducible refine Sd.mk ?_ ?_); focus (first | assumption | omega | exact Nat.zero_le _ | exact mulC_l | exact mulC_r | (simp only [List.length_cons, List.length_nil, List.length_map, List.length_append, Z.len_app]; omega) | (simp only [List.length_map, List.length_append, List.length_cons, List.length_nil, Z.intsF_len] at *; omega) | with_unfolding_all exact rfl | (refine powC_of ?_; omega) | assumption | exact List.mem_cons_self)) | with_reducible refine IfK.dt (by decide) ?_ | with_reducible refine IfK.df (by decide) ?_))
local macro_rules | `(tactic| array_get_dec) => `(tactic| repeat ((fail_if_success (with_reducible refine isJn ?_)); (first | with_reducible refine Stp.go ?_ | ((with_reducible refine Sd.mk ?_ ?_); focus (first | assumption | omega | exact Nat.zero_le _ | exact mulC_l | exact mulC_r | (simp only [List.length_cons, List.length_nil, List.length_map, List.length_append, Z.len_app]; omega) | (simp only [List.length_map, List.length_append, List.length_cons, List.length_nil, Z.intsF_len] at *; omega) | with_unfolding_all exact rfl | (refine powC_of ?_; omega) | assumption | exact List.mem_cons_self)) | with_reducible refine IfK.dt (by decide) ?_ | with_reducible refine IfK.df (by decide) ?_)))
local macro_rules | `(tactic| array_mem_dec) => `(tactic| (repeat' (first | (first | with_reducible refine Stp.go ?_ | ((with_reducible refine Sd.mk ?_ ?_); focus (first | assumption | omega | exact Nat.zero_le _ | exact mulC_l | exact mulC_r | (simp only [List.length_cons, List.length_nil, List.length_map, List.length_append, Z.len_app]; omega) | (simp only [List.length_map, List.length_append, List.length_cons, List.length_nil, Z.intsF_len] at *; omega) | with_unfolding_all exact rfl | (refine powC_of ?_; omega) | assumption | exact List.mem_cons_self)) | with_reducible refine IfK.dt (by decide) ?_ | with_reducible refine IfK.df (by decide) ?_) | refine IfK.dec (fun _ => ?_) (fun _ => ?_) | (refine CndK.mk ?_; first | rfl | (simp [*]; done) | (simp; omega) | (simp at *; done) | (simp at *; simp [*]; done) | (simp at *; omega)))))
local macro_rules | `(tactic| sizeOf_list_dec) => `(tactic| repeat ((fail_if_success (first | with_reducible refine isLc ?_ | with_reducible refine isFor ?_)); (first | with_reducible refine Stp.go ?_ | ((with_reducible refine Sd.mk ?_ ?_); focus (first | assumption | omega | exact Nat.zero_le _ | exact mulC_l | exact mulC_r | (simp only [List.length_cons, List.length_nil, List.length_map, List.length_append, Z.len_app]; omega) | (simp only [List.length_map, List.length_append, List.length_cons, List.length_nil, Z.intsF_len] at *; omega) | with_unfolding_all exact rfl | (refine powC_of ?_; omega) | assumption | exact List.mem_cons_self)) | with_reducible refine IfK.dt (by decide) ?_ | with_reducible refine IfK.df (by decide) ?_)))
def Tst.kids : Tst → List Tst
  | .not t => [t]
  | .and a b => [a, b]
  | .or a b => [a, b]
  | _ => []
def Err.kids : Err → List Err
  | .often e => [e]
  | .whl _ e => [e]
  | .thn a b => [a, b]
  | .iff _ a b => [a, b]
  | .eth a b => [a, b]
  | _ => []
instance s_innerT {t : Tst} {A : O → List O → Prop} {B : Exn → Prop} : Stp (FW (f_inner_tests [.d t.d]) A B) (A (.d (.tuple (t.kids.map Tst.d))) [.d t.d]) := ⟨fun k => by
  refine fwRun ?_
  unfold g_inner_tests
  cases t <;> (simp only [Tst.d, Tst.kids, List.map_cons, List.map_nil] at k ⊢; bv_omega; exact k)⟩
instance s_innerE {t : Err} {A : O → List O → Prop} {B : Exn → Prop} : Stp (FW (f_inner_errands [.d t.d]) A B) (A (.d (.tuple (t.kids.map Err.d))) [.d t.d]) := ⟨fun k => by
  refine fwRun ?_
  unfold g_inner_errands
  cases t <;> (simp only [Err.d, Err.kids, List.map_cons, List.map_nil] at k ⊢; bv_omega; exact k)⟩
end G
namespace G
open PySem PySem.Spec L2 Z
end G
namespace Z
open PySem PySem.Spec L2
/-- data that == looks through: no dict, texts of signs, not too deep -/
def Sh (d : Nat) (x : PyData) : Prop := PyData.canLay0 x = true ∧ PyData.depth x ≤ d
def ShL (d : Nat) (xs : List PyData) : Prop := PyData.canLayAll0 xs = true ∧ PyData.depthAll xs ≤ d
theorem Sh.shaped {d : Nat} {x : PyData} (h : Sh d x) (hd : d ≤ 64) : SeqAt.shaped x = true := by
  unfold SeqAt.shaped
  rw [h.1, Bool.true_and]
  exact decide_eq_true (Nat.le_trans h.2 hd)
theorem ShL.all {d : Nat} : ∀ {xs : List PyData}, (∀ x ∈ xs, Sh d x) → ShL d xs
  | [], _ => ⟨rfl, by simp [PyData.depthAll]⟩
  | x :: r, h => by
    have h1 := h x (by simp)
    have h2 := ShL.all (xs := r) fun y m => h y (by simp [m])
    refine ⟨?_, ?_⟩
    · simp only [PyData.canLayAll0, h1.1, h2.1, Bool.and_self]
    · have := h1.2; have := h2.2
      simp only [PyData.depthAll]
      omega
theorem Sh.tup {d : Nat} {xs : List PyData} (h : ∀ x ∈ xs, Sh d x) : Sh (d + 1) (.tuple xs) := by
  have := ShL.all h
  refine ⟨by simpa only [PyData.canLay0] using this.1, ?_⟩
  have := this.2
  simp only [PyData.depth]
  omega
theorem Sh.lst {d : Nat} {xs : List PyData} (h : ∀ x ∈ xs, Sh d x) : Sh (d + 1) (.list xs) := by
  have := ShL.all h
  refine ⟨by simpa only [PyData.canLay0] using this.1, ?_⟩
  have := this.2
  simp only [PyData.depth]
  omega
theorem Sh.mono {d e : Nat} {x : PyData} (h : Sh d x) (le : d ≤ e) : Sh e x := ⟨h.1, Nat.le_trans h.2 le⟩
theorem Sh.int {i : Int} : Sh 1 (.int i) := ⟨rfl, by simp [PyData.depth]⟩
theorem Sh.bool {i : Bool} : Sh 1 (.bool i) := ⟨rfl, by simp [PyData.depth]⟩
theorem Sh.none : Sh 1 .none := ⟨rfl, by simp [PyData.depth]⟩
def SOk (s : Str) : Prop := ∀ c ∈ L s, c < 0x110000
instance (s : Str) : Decidable (SOk s) := inferInstanceAs (Decidable (∀ c ∈ L s, c < 0x110000))
theorem Sh.str {s : Str} (h : SOk s) : Sh 1 (.str s) := ⟨by
  show (s.cps.all (· < 0x110000)) = true
  rw [← Array.all_toList]
  exact List.all_eq_true.mpr fun c m => decide_eq_true (h c m), by simp [PyData.depth]⟩
theorem eqvAll_map {α : Type} {e : α → PyData} {p : α → α → Bool} : ∀ {xs ys : List α}, (∀ x ∈ xs, ∀ y ∈ ys, PyData.eqv (e x) (e y) = p x y) → (∀ x ∈ xs, ∀ y ∈ ys, p x y = true ↔ x = y) → (PyData.eqvAll (xs.map e) (ys.map e) = true ↔ xs = ys)
  | [], [], _, _ => by simp [PyData.eqvAll]
  | [], _ :: _, _, _ => by simp [PyData.eqvAll]
  | _ :: _, [], _, _ => by simp [PyData.eqvAll]
  | x :: xs, y :: ys, h, k => by
    simp only [List.map_cons, PyData.eqvAll, Bool.and_eq_true, List.cons.injEq]
    rw [h x (by simp) y (by simp), k x (by simp) y (by simp), eqvAll_map (fun a m b n => h a (by simp [m]) b (by simp [n])) (fun a m b n => k a (by simp [m]) b (by simp [n]))]
theorem eqv_int {i j : Int} : PyData.eqv (.int i) (.int j) = decide (i = j) := by rw [← beqd]; rfl
theorem eqvInts {xs ys : List Int} : PyData.eqvAll (xs.map PyData.int) (ys.map PyData.int) = decide (xs = ys) := by
  have := eqvAll_map (e := PyData.int) (p := fun x y => decide (x = y)) (xs := xs) (ys := ys) (fun x _ y _ => eqv_int) (fun x _ y _ => decide_eq_true_iff)
  by_cases h : xs = ys
  · rw [decide_eq_true h]; exact this.mpr h
  · rw [decide_eq_false h]
    cases q : PyData.eqvAll (xs.map PyData.int) (ys.map PyData.int) with
    | false => rfl
    | true => exact absurd (this.mp q) h
theorem eqB_D {a b : O} {x y : PyData} (ha : a.fz = some x) (hb : b.fz = some y) (hx : SeqAt.shaped x = true) (hy : SeqAt.shaped y = true) : eqB a b = some (PyData.eqv x y) := by
  unfold eqB
  rw [ha, hb]
  cases x <;> cases y <;> first | rfl | simp only [hx, hy, and_self, if_true]
section
variable {AO : O → Prop} {a b : O} {x y : PyData}
instance (priority := 60) o_eqD [ha : FzC a x] [hb : FzC b y] : Stp (optW (eqF [a, b]) AO) (Sd (SeqAt.shaped x = true ∧ SeqAt.shaped y = true) (AO (.d (.bool (PyData.eqv x y))))) := ⟨fun h => by
  have e : eqF [a, b] = some (.d (.bool (PyData.eqv x y))) := by simp only [eqF, eqB_D ha.eq hb.eq h.1.1 h.1.2]
  rw [e]; exact h.2⟩
instance (priority := 60) o_neD [ha : FzC a x] [hb : FzC b y] : Stp (optW (neF [a, b]) AO) (Sd (SeqAt.shaped x = true ∧ SeqAt.shaped y = true) (AO (.d (.bool (!PyData.eqv x y))))) := ⟨fun h => by
  have e : neF [a, b] = some (.d (.bool (!PyData.eqv x y))) := by simp only [neF, eqB_D ha.eq hb.eq h.1.1 h.1.2]
  rw [e]; exact h.2⟩
end
section
variable {AF : Fl → Gs → Prop} {AL : List O → Gs → Prop} {B : Exn → Gs → Prop} {m : M O} {a : M Fl} {c : M Bool} {set : O → M Unit} {vs : List Nat}
theorem isLc {ds : List PyData} {acc : List O} {g : Gs} (h : Wp (lcM vs set c m ds acc g) AL B) : Wp (lcM vs set c m ds acc g) AL B := h
theorem isFor {ds : List PyData} {g : Gs} (h : Wp (forM set a ds g) AF B) : Wp (forM set a ds g) AF B := h
theorem intsF_succ (lo : Int) (n : Nat) : intsF lo (n + 1) = .int lo :: intsF (lo + 1) n := by
  unfold intsF
  rw [List.range_succ_eq_map, List.map_cons, List.map_map]
  simp only [List.cons.injEq]
  refine ⟨by simp, List.map_congr_left fun i _ => ?_⟩
  simp only [Function.comp]
  congr 1
  omega
theorem intsF_len (a : Int) (n : Nat) : (intsF a n).length = n := by simp [intsF]
theorem wp_forN (I : Int → Gs → Prop) : ∀ {n : Nat} {lo : Int} {g : Gs} (he : ∀ g, I (lo + n) g → AF .next g)
    (hs : ∀ i g, lo ≤ i → i < lo + n → I i g → Wp (set (.d (.int i)) g) (fun _ g1 => Wp (a g1) (ForI (ι := Nat) (fun _ g => I (i + 1) g) [] AF) B) B) (h : I lo g), Wp (forM set a (intsF lo n) g) AF B
  | 0, lo, g, he, hs, h => he g (by simpa using h)
  | n + 1, lo, g, he, hs, h => by
    rw [intsF_succ]
    refine Stp.go ((hs lo g (by omega) (by omega) h).mono (fun _ g1 q => q.mono (fun fl g2 z => ?_) fun _ _ z => z) fun _ _ z => z)
    have ih := @wp_forN I n (lo + 1)
    have e : lo + 1 + (n : Int) = lo + ((n + 1 : Nat) : Int) := by omega
    cases fl with
    | next => exact ih (fun g k => he g (by rw [← e]; exact k)) (fun i g h1 h2 => hs i g (by omega) (by omega)) z
    | cnt => exact ih (fun g k => he g (by rw [← e]; exact k)) (fun i g h1 h2 => hs i g (by omega) (by omega)) z
    | brk => exact z
    | ret o => exact z
theorem intsF_map (lo : Int) (n : Nat) : intsF lo n = ((List.range n).map fun (i : Nat) => lo + (i : Int)).map PyData.int := by
  unfold intsF
  rw [List.map_map]
  rfl
end
end Z
namespace G
open PySem PySem.Spec L2 Z
local macro_rules | `(tactic| bv_omega) => `(tactic| repeat (first | with_reducible refine Stp.go ?_ | ((with_reducible refine Sd.mk ?_ ?_); focus (first | assumption | omega | exact Nat.zero_le _ | exact mulC_l | exact mulC_r | (simp only [List.length_cons, List.length_nil, List.length_map, List.length_append, Z.len_app]; omega) | (simp only [List.length_map, List.length_append, List.length_cons, List.length_nil, Z.intsF_len] at *; omega) | with_unfolding_all exact rfl | (refine powC_of ?_; omega) | assumption | exact List.mem_cons_self)) | with_reducible refine IfK.dt (by decide) ?_ | with_reducible refine IfK.df (by decide) ?_))
local macro_rules | `(tactic| array_get_dec) => `(tactic| repeat ((fail_if_success (with_reducible refine isJn ?_)); (first | with_reducible refine Stp.go ?_ | ((with_reducible refine Sd.mk ?_ ?_); focus (first | assumption | omega | exact Nat.zero_le _ | exact mulC_l | exact mulC_r | (simp only [List.length_cons, List.length_nil, List.length_map, List.length_append, Z.len_app]; omega) | (simp only [List.length_map, List.length_append, List.length_cons, List.length_nil, Z.intsF_len] at *; omega) | with_unfolding_all exact rfl | (refine powC_of ?_; omega) | assumption | exact List.mem_cons_self)) | with_reducible refine IfK.dt (by decide) ?_ | with_reducible refine IfK.df (by decide) ?_)))
local macro_rules | `(tactic| array_mem_dec) => `(tactic| (repeat' (first | (first | with_reducible refine Stp.go ?_ | ((with_reducible refine Sd.mk ?_ ?_); focus (first | assumption | omega | exact Nat.zero_le _ | exact mulC_l | exact mulC_r | (simp only [List.length_cons, List.length_nil, List.length_map, List.length_append, Z.len_app]; omega) | (simp only [List.length_map, List.length_append, List.length_cons, List.length_nil, Z.intsF_len] at *; omega) | with_unfolding_all exact rfl | (refine powC_of ?_; omega) | assumption | exact List.mem_cons_self)) | with_reducible refine IfK.dt (by decide) ?_ | with_reducible refine IfK.df (by decide) ?_) | refine IfK.dec (fun _ => ?_) (fun _ => ?_) | (refine CndK.mk ?_; first | rfl | (simp [*]; done) | (simp; omega) | (simp at *; done) | (simp at *; simp [*]; done) | (simp at *; omega)))))
local macro_rules | `(tactic| sizeOf_list_dec) => `(tactic| repeat ((fail_if_success (first | with_reducible refine isLc ?_ | with_reducible refine isFor ?_)); (first | with_reducible refine Stp.go ?_ | ((with_reducible refine Sd.mk ?_ ?_); focus (first | assumption | omega | exact Nat.zero_le _ | exact mulC_l | exact mulC_r | (simp only [List.length_cons, List.length_nil, List.length_map, List.length_append, Z.len_app]; omega) | (simp only [List.length_map, List.length_append, List.length_cons, List.length_nil, Z.intsF_len] at *; omega) | with_unfolding_all exact rfl | (refine powC_of ?_; omega) | assumption | exact List.mem_cons_self)) | with_reducible refine IfK.dt (by decide) ?_ | with_reducible refine IfK.df (by decide) ?_)))
/-- a test over these questions -/
def Tst.over (qs : List Str) : Tst → Prop
  | .ask q => q ∈ qs
  | .not t => t.over qs
  | .and a b => a.over qs ∧ b.over qs
  | .or a b => a.over qs ∧ b.over qs
  | _ => True
def Err.over (qs ps : List Str) : Err → Prop
  | .done => True
  | .doo p => p ∈ ps
  | .often e => e.over qs ps
  | .whl t e => t.over qs ∧ e.over qs ps
  | .thn a b => a.over qs ps ∧ b.over qs ps
  | .iff t a b => t.over qs ∧ a.over qs ps ∧ b.over qs ps
  | .eth a b => a.over qs ps ∧ b.over qs ps
/-- of all tests in it -/
def Err.tst (P : Tst → Prop) : Err → Prop
  | .often e => e.tst P
  | .whl t e => P t ∧ e.tst P
  | .thn a b => a.tst P ∧ b.tst P
  | .iff t a b => P t ∧ a.tst P ∧ b.tst P
  | .eth a b => a.tst P ∧ b.tst P
  | _ => True
theorem low_sok {z : Str} (h : Low z) : SOk z := fun c m => by
  have h2 : ∀ c ∈ L lets, c < 0x110000 := by decide +kernel
  exact h2 c (h c m)
end G
namespace Z
open PySem PySem.Spec PySem.W PyProof.Rows L2 PyProof.V
section
variable {prog : Program} {w : World} {A : Around} {E : Value → Shared → Prop} {s : Shared}
theorem same_empty {nm : String} {a b : Addr} {es : Array DictEntry} {ep ep' : Nat} {Q : Bool → Shared → Prop} (ha : (a == sysModules) = false) (hb : (b == sysModules) = false)
    (da : DT.Raw s.heap a es ep) (db : DT.Raw s.heap b #[] ep') (h : Q (es.size == 0) s) : wpAny (model prog w) A (Builtin.Dict.samePairs nm a b) Q E s := by
  obtain ⟨oa, hoa, _, hda⟩ := da
  obtain ⟨ob, hob, _, hdb⟩ := db
  unfold Builtin.Dict.samePairs Builtin.Dict.showsAll
  rw [if_neg (show ¬ (a == sysModules) = true by rw [ha]; exact Bool.false_ne_true), if_neg (show ¬ (b == sysModules) = true by rw [hb]; exact Bool.false_ne_true)]
  refine wpAny_bind (wpAny_pure (wpAny_bind (wpAny_pure ?_)))
  refine wpAny_bind (wpAny_dictEntries hoa hda ?_)
  dsimp only
  refine wpAny_bind (wpAny_dictEntries hob hdb ?_)
  by_cases hsz : es.size = 0
  case neg =>
    rw [if_pos (by simpa using hsz)]
    have hbf : (es.size == 0) = false := by simpa using hsz
    rw [hbf] at h
    exact wpAny_bind (wpAny_rule (wpAny_pure h))
  case pos =>
    have h' : Q true s := by simpa [hsz] using h
    rw [if_neg (by simp [hsz])]
    refine wpAny_bind (wpAny_dictEpoch hoa hda ?_)
    refine wpAny_bind ?_
    rw [Std.Legacy.Range.forIn_eq_forIn_range']
    simp only [Std.Legacy.Range.size, Nat.sub_zero, Nat.add_sub_cancel, Nat.div_one, hsz]
    exact wpAny_pure (wpAny_pure h')
theorem deq_empty {a b : Addr} {es : Array DictEntry} {ep ep' : Nat} {Q : Value → Shared → Prop} (ha : (a == sysModules) = false) (hb : (b == sysModules) = false)
    (da : DT.Raw s.heap a es ep) (db : DT.Raw s.heap b #[] ep') (hu : A.units < cLine) (h : Q (.bool (es.size == 0)) s) : wpAny (model prog w) A (compareOp .Eq (.ref a) (.ref b)) Q E s := by
  refine wpAny_richCompare_same_room (op := .Eq) da.typeIs db.typeIs PySem.F.slot_dict_eq (wpAny_call_entry PySem.F.slot_dict_eq da.typeIs PySem.F.entry_dict_eq ?_ (PySem.F.args_dict_eq_2 _ _)) hu
  show wpAny _ _ (Builtin.Dict.dictSlotArgs "__eq__" ⟨[.ref a, .ref b], []⟩ >>= _) _ _ s
  refine wpAny_bind ?_
  unfold Builtin.Dict.dictSlotArgs
  refine wpAny_bind (wpAny_notOrdered_dict da.typeIs ?_)
  show wpAny _ _ (pure (Value.ref a, Value.ref b)) _ _ s
  refine wpAny_pure ?_
  refine wpAny_bind (wpAny_isInstance (T := "dict") db.typeIs PySem.F.sub_dict_dict ?_)
  simp only [Bool.not_true, Bool.false_eq_true, if_false]
  refine wpAny_bind (wpAny_pure (wpAny_bind (wpAny_pure ?_)))
  refine wpAny_bind (same_empty ha hb da db ?_)
  refine wpAny_pure ⟨_, rfl, ?_, ?_⟩
  · exact fun x => nomatch x
  · simpa using h
end
theorem storedAll_nodup {K : Type} [DecidableEq K] : ∀ {ps acc : List (K × Addr × Value)}, ((acc ++ ps).map (·.1)).Nodup → storedAllH acc ps = acc ++ ps
  | [], acc, _ => by simp [storedAllH]
  | p :: ps, acc, h => by
    have hn : atKey acc p.1 = none := by
      rw [List.map_append, List.map_cons] at h
      have h2 := (List.nodup_append.mp h).2.2
      unfold atKey
      rw [Option.map_eq_none_iff, List.find?_eq_none]
      intro x hx
      have := h2 x.1 (List.mem_map.mpr ⟨x, hx, rfl⟩) p.1 (by simp)
      simpa using this
    show storedAllH (storedH acc p.1 p.2.1 p.2.2) ps = _
    rw [storedH_new hn]
    have := storedAll_nodup (ps := ps) (acc := acc ++ [p]) (by simpa using h)
    rw [show acc ++ [(p.1, p.2.1, p.2.2)] = acc ++ [p] from rfl, this]
    simp
section
variable {X : Cx}
abbrev TrP := List Key × Addr × V
def TrR (K : PySem.W.Frag) (H : Hp) (p : Addr) (t : TrP) : Prop := SqT K H p [.ref t.2.1, t.2.2] ∧ H t.2.1 = some (.tup (t.1.map kV))
def rDictT (K : PySem.W.Frag) : List V → Hp → VK → Prop := fun xs H Q => ∃ (a : Addr) (ps : List Addr) (ts : List TrP), xs = [.ref a] ∧ SqL K H a (ps.map V.ref) ∧ Paired (TrR K H) ps ts ∧ (ts.map (·.1)).Nodup ∧
  ∀ p, H p = none → Q (.ref p) (upd H p (.dT (ts.map fun t => (t.1, t.2.2))))
theorem trips_of {pins : List (Addr × Obj)} {σ : L2.St} {H : Hp} {s : Shared} (I : Inv X pins σ H s) : ∀ {ps : List Addr} {ts : List TrP}, Paired (TrR X.K H) ps ts →
    ∃ us : List Value, us.length = ts.length ∧ Paired (fun t u => RelV t.2.2 u) ts us ∧ ps.length = ts.length ∧
      (∀ (j : Nat) (t : TrP) (u : Value), ts[j]? = some t → us[j]? = some u → ∃ b, ps[j]? = some b ∧ IsTup s.heap b #[.ref t.2.1, u])
  | _, _, .nil => ⟨[], rfl, .nil, rfl, fun j q u e => by simp at e⟩
  | _, _, .cons (a := p) (b := t) h r => by
    obtain ⟨us, h1, h2, h3, h4⟩ := trips_of I r
    obtain ⟨its, rv, ht, _⟩ := I.tuple h.1
    obtain ⟨u, y, ei, ru, ry⟩ := vals2 rv
    cases (show u = Value.ref t.2.1 from ru)
    subst ei
    refine ⟨y :: us, by simp [h1], .cons ry h2, by simp [h3], fun j t' u' e1 e2 => ?_⟩
    cases j with
    | zero =>
      simp at e1 e2
      subst e1; subst e2
      exact ⟨p, rfl, ht⟩
    | succ j =>
      simp at e1 e2
      obtain ⟨b, q1, q2⟩ := h4 j t' u' e1 e2
      exact ⟨b, by simpa using q1, q2⟩
theorem call_dictPT (hc : X.calm = true) (hu : X.A.units + 64 < cLine) : CallR X (.type "dict") (rDictT X.K) := by
  intro pins s σ H xs us Q I r q
  obtain ⟨a, ps, ts, ex, hq, hp, hn, q⟩ := q
  subst ex
  obtain ⟨u, eu, rx⟩ := vals1 r
  subst eu
  cases rx
  obtain ⟨its, rv, pl, hz⟩ := I.list hq
  have ei := refs_at rv
  subst ei
  rw [List.length_map] at hz
  obtain ⟨vs, l1, l2, l3, l4⟩ := trips_of I hp
  obtain ⟨o, n, ho, hcl, hd, hdat⟩ := pl
  have ks : ∀ t ∈ ts, (tupleKind (mixKind X.prog X.w)).is s.heap t.1 t.2.1 := by
    have : ∀ {ps : List Addr} {ts : List TrP}, Paired (TrR X.K H) ps ts → ∀ t ∈ ts, H t.2.1 = some (.tup (t.1.map kV)) := by
      intro ps ts h
      induction h with
      | nil => intro t m; cases m
      | cons h r ih =>
        intro t m
        rcases List.mem_cons.mp m with e | m
        · subst e; exact h.2
        · exact ih t m
    exact fun t m => key_of I.hok (this hp t m)
  have hlen : ts.length = vs.length := l1.symm
  have pget : ∀ (j : Nat) (k v : Value), ((ts.zip vs).map fun x => (Value.ref x.1.2.1, x.2))[j]? = some (k, v) → ∃ t, ts[j]? = some t ∧ vs[j]? = some v ∧ k = .ref t.2.1 := by
    intro j k v e
    rw [List.getElem?_map, Option.map_eq_some_iff] at e
    obtain ⟨⟨t, u⟩, e1, e2⟩ := e
    obtain ⟨e3, e4⟩ := List.getElem?_zip_eq_some.mp e1
    cases e2
    exact ⟨t, e3, e4, rfl⟩
  refine PySem.call_dict_pairsH (knd := tupleKind (mixKind X.prog X.w)) (ps := (ts.zip vs).map fun x => (x.1.1, x.1.2.1, x.2)) (PairArg.list a (ps.map Value.ref).toArray (fun j => ps.getD j 0) ((ts.zip vs).map fun x => (Value.ref x.1.2.1, x.2))) (I.ok.hd hc)
    (show X.A.in1.in1.units < cLine from ?_) ⟨⟨o, n, ho, hcl, hd, hdat⟩, ⟨by simp [l3, hlen], fun j k v e => ?_⟩⟩ ⟨by simp, fun i k v e => ?_⟩ ?_ ?_ ?_
  · have e : X.A.in1.in1.units ≤ X.A.units + 2 := by first | exact Nat.le_refl _ | (simp [Around.in1]) | omega
    omega
  · obtain ⟨t, e1, e2, rfl⟩ := pget j k v e
    obtain ⟨b, q1, q2⟩ := l4 j t v e1 e2
    exact ⟨by simp [q1], .inl (show IsTup s.heap (ps.getD j 0) #[Value.ref t.2.1, v] from by simpa [q1] using q2)⟩
  · obtain ⟨t, e1, e2, rfl⟩ := pget i k v e
    refine ⟨t.1, t.2.1, ?_, rfl⟩
    rw [List.getElem?_map, Option.map_eq_some_iff]
    exact ⟨(t, v), List.getElem?_zip_eq_some.mpr ⟨e1, e2⟩, rfl⟩
  · intro h' hk x hx
    obtain ⟨⟨t, u⟩, hm, rfl⟩ := List.mem_map.mp hx
    have ht := (List.of_mem_zip hm).1
    obtain ⟨o2, items, n2, g1, g2, g3, g4⟩ := (show IsTupleKey _ _ _ _ from ks t ht)
    exact (show IsTupleKey _ _ _ _ from ⟨o2, items, n2, hk _ _ (Nat.ne_of_lt (Heap.lt_size g1)) (by simp) g1, g2, g3, g4⟩)
  · simp only [List.length_map, List.length_zip, hlen, Nat.min_self]
    omega
  · intro h' tk hd' hk
    have hm : (s.heap.objs.size == sysModules) = false := beq_eq_false_iff_ne.mpr (Nat.ne_of_gt I.big)
    have key : ∀ {ps : List Addr} {ts : List TrP} {us : List Value}, Paired (TrR X.K H) ps ts → Paired (fun t u => RelV t.2.2 u) ts us → KT H (ts.map fun t => (t.1, t.2.2)) ((ts.zip us).map fun x => (x.1.1, x.1.2.1, x.2)) := by
      intro ps ts us h1
      induction h1 generalizing us with
      | nil => intro h2; cases h2; exact .nil
      | cons h r ih =>
        intro h2
        cases h2 with
        | cons e t => exact .cons ⟨rfl, h.2, e⟩ (ih t)
    have kt := key hp l2
    have nod : (((ts.zip vs).map fun x => (x.1.1, x.1.2.1, x.2)).map (·.1)).Nodup := by
      have e : ((ts.zip vs).map fun x => (x.1.1, x.1.2.1, x.2)).map (·.1) = ts.map (·.1) := by
        rw [List.map_map]
        have : ((fun x : List Key × Addr × Value => x.1) ∘ fun x : TrP × Value => (x.1.1, x.1.2.1, x.2)) = (fun t : TrP => t.1) ∘ Prod.fst := rfl
        rw [this, ← List.map_map, List.map_fst_zip (by omega)]
      rw [e]
      exact hn
    rw [storedAll_nodup (by simpa using nod), List.nil_append] at hd'
    have fr := I.hok.fresh (Nat.le_refl _)
    obtain ⟨q2, es, ep, hq, h2, h3, h4, _, h5⟩ := hd'
    refine ⟨.ref s.heap.objs.size, upd H s.heap.objs.size (.dT (ts.map fun t => (t.1, t.2.2))), I.laid (t' := tk) (fun b ob e => hk b ob (by simp) e) (Nat.le_refl _) (show ObjOk X.prog X.w _ _ _ (.dT (ts.map fun t => (t.1, t.2.2))) from ⟨by simp; omega, hm, _, kt.keeps fun c ys ec => ?_, q2, es, ep, hq, h2, h3, h4, h5⟩), rfl, q _ fr⟩
    rw [upd_ne (fun z => by rw [z, fr] at ec; cases ec)]
    exact ec
end
end Z
namespace Z
open PySem PySem.Spec L2
def kk (is : List Int) : List Key := is.map Sum.inl
def kI : Key → Bool
  | .inl _ => true
  | .inr _ => false
def kD : Key → PyData
  | .inl i => .int i
  | .inr s => .str s
def tupD (k : List Key) : PyData := .tuple (k.map kD)
theorem dpKInts {K : PySem.W.Frag} {Hf : Hp} : ∀ {vs : List V} {is : List Int}, DpAll K Hf vs (is.map PyData.int) → vs = (kk is).map kV
  | [], [], _ => rfl
  | v :: vs, i :: is, h => by
    rw [List.map_cons] at h
    cases h with
    | cons h t =>
      cases h
      rw [dpKInts t]
      rfl
  | [], i :: is, h => by rw [List.map_cons] at h; cases h
  | v :: vs, [], h => by rw [List.map_nil] at h; cases h
theorem idxInts : ∀ is : List Int, idxS (is.map PyData.int) = false
  | [] => rfl
  | i :: r => by simp [idxS]
theorem intsOf_eq : ∀ {ds : List PyData} {is : List Int}, intsOf ds = some is → ds = is.map PyData.int
  | [], is, h => by simp only [intsOf, Option.some.injEq] at h; subst h; rfl
  | .int i :: r, is, h => by
    simp only [intsOf] at h
    cases q : intsOf r with
    | none => rw [q] at h; cases h
    | some y => rw [q] at h; cases h; rw [List.map_cons, ← intsOf_eq q]
  | .none :: _, _, h => by simp [intsOf] at h
  | .bool _ :: _, _, h => by simp [intsOf] at h
  | .str _ :: _, _, h => by simp [intsOf] at h
  | .list _ :: _, _, h => by simp [intsOf] at h
  | .tuple _ :: _, _, h => by simp [intsOf] at h
  | .dict _ :: _, _, h => by simp [intsOf] at h
/-- an int tuple of data is a key -/
theorem dpKey {K : PySem.W.Frag} {Hf : Hp} {v : V} {is : List Int} (h : Dp K Hf v (.tuple (is.map PyData.int))) : ∃ b, v = .ref b ∧ Hf b = some (.tup ((kk is).map kV)) := by
  generalize hd : is.map PyData.int = ds at h
  have hi := idxInts is
  cases h with
  | tup h1 _ h2 =>
    subst hd
    rw [dpKInts h2] at h1
    exact ⟨_, rfl, h1⟩
  | ftup _ _ j _ =>
    subst hd
    rw [hi] at j
    cases j
def atT {α : Type} (kvs : List (List Key × α)) (k : List Key) : Option α := (kvs.find? fun kv => decide (kv.1 = k)).map (·.2)
def dgV (o : O) (k : List Key) : Option O := match o with
  | .dT kos => match atT kos k with
    | some (.d x) => some (.d x)
    | _ => none
  | .gD kds => match atT kds k with
    | some x => some (.d x)
    | none => none
  | _ => none
def dgF : List O → Option O
  | [a, .d (.tuple ds)] => match intsOf ds with
    | some is => dgV a (kk is)
    | none => none
  | _ => none
def dhV (o : O) (k : List Key) : Option Bool := match o with
  | .dT kos => some (atT kos k).isSome
  | .gD kds => some (atT kds k).isSome
  | _ => none
def diF (neg : Bool) : List O → Option O
  | [.d (.tuple ds), a] => match intsOf ds with
    | some is => match dhV a (kk is) with
      | some b => some (.d (.bool (if neg then !b else b)))
      | none => none
    | none => none
  | _ => none
theorem atT_val {α : Type} {kvs : List (List Key × V)} {kos : List (List Key × α)} {P : V → α → Prop} (hk : kvs.map (·.1) = kos.map (·.1)) (k : List Key) :
    (∀ (i : Nat) (v : V) (o : α), (kvs.map (·.2))[i]? = some v → (kos.map (·.2))[i]? = some o → P v o) →
    match valV kvs k, atT kos k with
    | some v, some o => P v o
    | none, none => True
    | _, _ => False := by
  induction kvs generalizing kos with
  | nil =>
    cases kos with
    | nil => intro _; simp [valV, atT]
    | cons a r => simp at hk
  | cons p r ih =>
    cases kos with
    | nil => simp at hk
    | cons q t =>
      simp only [List.map_cons, List.cons.injEq] at hk
      intro h
      have ih' := ih hk.2 fun i v o e1 e2 => h (i + 1) v o (by simpa using e1) (by simpa using e2)
      have h0 := h 0 p.2 q.2 (by simp) (by simp)
      unfold valV atT at ih' ⊢
      simp only [List.find?_cons]
      by_cases e : p.1 = k
      · have e' : q.1 = k := hk.1 ▸ e
        simp only [e, e', decide_true]
        exact h0
      · have e' : ¬ q.1 = k := fun z => e (hk.1.trans z)
        simp only [e, e', decide_false]
        exact ih'
theorem owLGet {K : PySem.W.Frag} {mg : Str → Option Value} {Hf : Fz} {H : Hp} : ∀ {vs : List V} {os : List O} {as : List Addr}, OwL K mg Hf H vs os as → ∀ (i : Nat) (v : V) (o : O), vs[i]? = some v → os[i]? = some o → ∃ bs, Ow K mg Hf H v o bs
  | _, _, _, .nil, i, v, o, e, _ => by simp at e
  | _, _, _, .cons h t, 0, v, o, e1, e2 => by simp at e1 e2; subst e1; subst e2; exact ⟨_, h⟩
  | _, _, _, .cons h t, i + 1, v, o, e1, e2 => owLGet t i v o (by simpa using e1) (by simpa using e2)
theorem dpGet' {K : PySem.W.Frag} {Hf : Hp} : ∀ {vs : List V} {ds : List PyData}, DpAll K Hf vs ds → ∀ (i : Nat) (v : V) (d : PyData), vs[i]? = some v → ds[i]? = some d → Dp K Hf v d
  | _, _, .nil, i, v, d, e, _ => by simp at e
  | _, _, .cons h t, 0, v, d, e1, e2 => by simp at e1 e2; subst e1; subst e2; exact h
  | _, _, .cons h t, i + 1, v, d, e1, e2 => dpGet' t i v d (by simpa using e1) (by simpa using e2)
section
variable {X : Cx} {W : WX} {pu pv : Bool} {H H' : Hp} {Ex : List (Addr × HO)} {σ : L2.St} {g : Gs} {T T' ws ws' : Roots} {e a b : Expr} {es : List Expr} {m : M O} {ms : M (List O)} {pos : Pos} {k np : Nat}
/-- what a dict that is looked at holds at a key -/
theorem dGet_of {Hf : Fz} {x y : V} {o : O} {as : List Addr} {is : List Int} (s : Hf.on X.K H) (h : Ow X.K X.mg Hf H x o as) (hy : Dp X.K Hf.h y (.tuple (is.map PyData.int))) :
    (∀ z, dgV o (kk is) = some z → ∃ ad v d, x = .ref ad ∧ DGet H ad y (some v) ∧ z = .d d ∧ Dp X.K Hf.h v d) ∧ (∀ c, dhV o (kk is) = some c → ∃ ad r, x = .ref ad ∧ DGet H ad y r ∧ r.isSome = c) := by
  obtain ⟨bk, rfl, hb⟩ := dpKey hy
  have hbH := s _ _ hb
  cases h with
  | dT q kq t =>
    rename_i ad kvs kos cs
    have key := atT_val (P := fun v o => ∃ bs, Ow X.K X.mg Hf H v o bs) kq.1 (kk is) fun i v o e1 e2 => owLGet t i v o e1 e2
    refine ⟨fun z hz => ?_, fun c hc => ?_⟩
    · unfold dgV at hz
      simp only at hz
      split at hz
      · rename_i d e
        cases hz
        rw [e] at key
        split at key
        · rename_i v o e1 e2
          cases e2
          obtain ⟨bs, ow⟩ := key
          cases ow with
          | d hd => exact ⟨_, v, d, rfl, .inr ⟨kvs, kk is, bk, .inl q, rfl, hbH, e1.symm⟩, rfl, hd⟩
        · rename_i e1 e2; cases e2
        · exact key.elim
      · cases hz
    · unfold dhV at hc
      simp only [Option.some.injEq] at hc
      refine ⟨_, valV kvs (kk is), rfl, .inr ⟨kvs, kk is, bk, .inl q, rfl, hbH, rfl⟩, ?_⟩
      rw [← hc]
      split at key
      · rename_i e1 e2; rw [e1, e2]; rfl
      · rename_i e1 e2; rw [e1, e2]; rfl
      · exact key.elim
  | gD q kq t =>
    rename_i ad ob kvs kds
    have key := atT_val (P := fun v d => Dp X.K Hf.h v d) kq (kk is) fun i v d e1 e2 => dpGet' t i v d e1 e2
    have qH := s _ _ q
    refine ⟨fun z hz => ?_, fun c hc => ?_⟩
    · unfold dgV at hz
      simp only at hz
      split at hz
      · rename_i d e
        cases hz
        rw [e] at key
        split at key
        · rename_i v d' e1 e2
          cases e2
          exact ⟨_, v, d, rfl, .inr ⟨kvs, kk is, bk, .inr ⟨_, qH⟩, rfl, hbH, e1.symm⟩, rfl, key⟩
        · rename_i e1 e2; cases e2
        · exact key.elim
      · cases hz
    · unfold dhV at hc
      simp only [Option.some.injEq] at hc
      refine ⟨_, valV kvs (kk is), rfl, .inr ⟨kvs, kk is, bk, .inr ⟨_, qH⟩, rfl, hbH, rfl⟩, ?_⟩
      rw [← hc]
      split at key
      · rename_i e1 e2; rw [e1, e2]; rfl
      · rename_i e1 e2; rw [e1, e2]; rfl
      · exact key.elim
  | _ => exact ⟨fun z hz => by simp [dgV] at hz, fun c hc => by simp [dhV] at hc⟩
def rDg2 : R2 := fun x y H Q => ∃ a v, x = .ref a ∧ DGet H a y (some v) ∧ Q v H
def rDi2 : R2 := fun y x H Q => ∃ a o, x = .ref a ∧ DGet H a y o ∧ Q (.bl o.isSome) H
theorem pr_dg : PR X (r2L rDg2) dgF := by
  intro xs os H Ex rs ws Q o hl r hf kk
  unfold dgF at hf
  split at hf
  · rename_i a' ds
    split at hf
    · rename_i is hi
      have := intsOf_eq hi
      subst this
      obtain ⟨x, y, rfl⟩ : ∃ x y, xs = [x, y] := by
        match xs, hl with
        | [x, y], _ => exact ⟨x, y, rfl⟩
      obtain ⟨Hf, s, hw, cl⟩ := r.fr
      obtain ⟨b1, h1⟩ := hw (x, a') (by simp)
      obtain ⟨b2, h2⟩ := hw (y, .d (.tuple (is.map PyData.int))) (by simp)
      cases h2 with
      | d h2 =>
        obtain ⟨ad, v, d, e1, e2, e3, e4⟩ := (dGet_of s h1 h2).1 _ hf
        subst e1; subst e3
        exact ⟨ad, v, rfl, e2, kk _ _ (Same.refl _) (cl [v] [d] (.cons e4 .nil))⟩
    · cases hf
  · cases hf
theorem di_of {neg : Bool} {xs : List V} {os : List O} {rs : Roots} {o : O} (hl : xs.length = os.length) (r : Rel X.K X.mg H Ex rs (xs.zip os ++ ws)) (hf : diF neg os = some o) :
    ∃ y ad rr, xs = [y, .ref ad] ∧ DGet H ad y rr ∧ o = .d (.bool (if neg then !rr.isSome else rr.isSome)) := by
  unfold diF at hf
  split at hf
  · rename_i ds a'
    split at hf
    · rename_i is hi
      have := intsOf_eq hi
      subst this
      split at hf
      · rename_i c hc
        cases hf
        obtain ⟨y, x, rfl⟩ : ∃ x y, xs = [x, y] := by
          match xs, hl with
          | [x, y], _ => exact ⟨x, y, rfl⟩
        obtain ⟨Hf, s, hw, cl⟩ := r.fr
        obtain ⟨b2, h2⟩ := hw (y, .d (.tuple (is.map PyData.int))) (by simp)
        obtain ⟨b1, h1⟩ := hw (x, a') (by simp)
        cases h2 with
        | d h2 =>
          obtain ⟨ad, rr, e1, e2, e3⟩ := (dGet_of s h1 h2).2 _ hc
          subst e1; subst e3
          exact ⟨y, ad, rr, rfl, e2, rfl⟩
      · cases hf
    · cases hf
  · cases hf
theorem pr_di : PR X (r2L rDi2) (diF false) := by
  intro xs os H Ex rs ws Q o hl r hf kk
  obtain ⟨y, ad, rr, rfl, h, rfl⟩ := di_of hl r hf
  exact ⟨ad, rr, rfl, h, kk _ _ (Same.refl _) (r.data fun _ => .bl _)⟩
theorem ev_dg (c : Cc X W k) (h : EvAs X W pu [a, b] ms) (hs : NoSl b := by intro _ _; rfl) : Ev X W pu (.Subscript a b pos) (opM dgF ms) := by
  obtain ⟨ts, g1, g2⟩ := h.ex
  cases g1 with
  | cons p1 _ g1 =>
    cases g1 with
    | cons p2 _ g1 =>
      cases g1
      exact ⟨_, pe_dget (by have := c.hr.units; omega) p1 p2 hs, opCore pr_dg g2⟩
theorem et_di (c : Cc X W k) (h : EvAs X W pu [a, b] ms) (hm : behindInMarks .In b = false := by rfl) : EvT X W pu (.Compare a [.In] [b] pos) (tstM (opM (diF false) ms)) := by
  obtain ⟨ts, g1, g2⟩ := h.ex
  cases g1 with
  | cons p1 _ g1 =>
    cases g1 with
    | cons p2 _ g1 =>
      cases g1
      exact ⟨_, pt_cmp (pc_din (by have := c.hr.units; omega) p1 p2) hm, tstCore (opCore pr_di g2)⟩
def inDF (neg : Bool) : List O → Option O
  | [.d e, b] => match asL b with
    | some ds => if SeqAt.shaped e = true ∧ SeqAt.shaped (.list ds) = true then some (.d (.bool (if neg then !(ds.any fun z => PyData.eqv z e) else ds.any fun z => PyData.eqv z e))) else none
    | none => none
  | _ => none
theorem ind_of {neg : Bool} {xs : List V} {os : List O} {rs : Roots} {o : O} (hl : xs.length = os.length) (r : Rel X.K X.mg H Ex rs (xs.zip os ++ ws)) (hf : inDF neg os = some o) :
    ∃ x y d ds, xs = [x, y] ∧ L2.Dp X.K H x d ∧ L2.Dp X.K H y (.list ds) ∧ SeqAt.shaped d = true ∧ SeqAt.shaped (.list ds) = true ∧ o = .d (.bool (if neg then !(ds.any fun z => PyData.eqv z d) else ds.any fun z => PyData.eqv z d)) := by
  unfold inDF at hf
  split at hf
  · rename_i e b
    split at hf
    · rename_i ds hb
      split at hf
      · rename_i hs
        cases hf
        obtain ⟨x, y, rfl⟩ : ∃ x y, xs = [x, y] := by
          match xs, hl with
          | [x, y], _ => exact ⟨x, y, rfl⟩
        obtain ⟨Hf, s, hw, cl⟩ := r.fr
        obtain ⟨b1, h1⟩ := hw (x, .d e) (by simp)
        obtain ⟨b2, h2⟩ := hw (y, b) (by simp)
        obtain ⟨ad, vs, rfl, q1, q2⟩ := owL s h2 hb
        cases h1 with
        | d h1 => exact ⟨x, _, e, ds, rfl, dpTo (dpMono s.same h1), .lst q1 (dpAllTo (dpAllMono s.same q2)), hs.1, hs.2, rfl⟩
      · cases hf
    · cases hf
  · cases hf
theorem pr_ninD : PR X (r2L (rNotInD X.K)) (inDF true) := by
  intro xs os H Ex rs ws Q o hl r hf kk
  obtain ⟨x, y, d, ds, rfl, h1, h2, h3, h4, rfl⟩ := ind_of hl r hf
  exact ⟨d, ds, h1, h2, h3, h4, kk _ _ (Same.refl _) (r.data fun _ => .bl _)⟩
theorem unit65 (c : Cc X W k) : X.A.units + 65 < cLine := by have := c.hr.un; omega
def newTM : M O := M.ret (.dT [])
theorem ev_newT : Ev X W true (.Dict [] [] pos) newTM := ⟨_, pe_dnewT, fun σ H Q g T Ex ws a w p hp => w (.ref p) _ (fun _ => ⟨rfl, sameNew hp _⟩) (.ofTop a.fit ((a.rel.new (.dT []) hp).shut (vs := []) (os := []) (.dT (kvs := []) (kos := []) ⟨rfl, .nil⟩) rfl))⟩
def eqEF : List O → Option O
  | [.dT kos, .dT []] => some (.d (.bool kos.isEmpty))
  | [.gD kos, .dT []] => some (.d (.bool kos.isEmpty))
  | _ => none
def rEqE : R2 := fun x y H Q => ∃ a b kvs, x = .ref a ∧ y = .ref b ∧ Rd H a (.dT kvs) ∧ H b = some (.dT []) ∧ Q (.bl kvs.isEmpty) H
theorem op_eqE (hu : X.A.units < cLine) : OpR X (compareOp .Eq) rEqE := by
  intro pins s σ H x y v u Q I rx ry h
  obtain ⟨a, b, kvs, rfl, rfl, ea, eb, q⟩ := h
  obtain rfl : v = Value.ref a := rx
  obtain rfl : u = Value.ref b := ry
  obtain ⟨_, ya, va, ra, da⟩ := dt_rd I.hok ea
  obtain ⟨_, yb, vb, rb, db⟩ := dt_of I.hok eb
  cases rb
  obtain ⟨oa, es, ep, g1, g2, g3, g4, _⟩ := da
  obtain ⟨ob, es', ep', k1, k2, k3, k4, _⟩ := db
  have l1 : es.size = va.length := size_of_entries g4
  have l2 : es'.size = 0 := size_of_entries k4
  obtain rfl : es' = #[] := Array.eq_empty_of_size_eq_zero l2
  refine deq_empty ya yb ⟨oa, g1, g2, g3⟩ ⟨ob, k1, k2, k3⟩ hu ?_
  have e : (es.size == 0) = kvs.isEmpty := by
    rw [l1, ← Paired.length ra]
    cases kvs <;> rfl
  rw [e]
  exact ⟨.bl kvs.isEmpty, H, I.tok _, rfl, q⟩
theorem pr_eqE : PR X (r2L rEqE) eqEF := by
  intro xs os H Ex rs ws Q o hl r hf kk
  unfold eqEF at hf
  have two : ∃ x y, xs = [x, y] := by
    match xs, os, hl, hf with
    | [x, y], _, _, _ => exact ⟨x, y, rfl⟩
    | [], os, hl, hf => exfalso; cases os <;> simp at hl hf
    | [x], os, hl, hf => exfalso; match os, hl with | [o], _ => simp at hf
    | x :: y :: z :: t, os, hl, hf => exfalso; match os, hl with | a :: b :: c :: d, _ => simp at hf
  obtain ⟨x, y, rfl⟩ := two
  obtain ⟨Hf, s, hw, cl⟩ := r.fr
  split at hf
  · rename_i kos
    cases hf
    obtain ⟨b1, h1⟩ := hw (x, .dT kos) (by simp)
    obtain ⟨b2, h2⟩ := hw (y, .dT []) (by simp)
    cases h1 with
    | dT q1 k1 t1 =>
      cases h2 with
      | dT q2 k2 t2 =>
        rename_i kvs _ _ kv2 _
        obtain rfl : kv2 = [] := by simpa using k2.1
        have e : kvs.isEmpty = kos.isEmpty := by
          have := congrArg List.length k1.1
          simp at this
          cases kvs <;> cases kos <;> simp_all
        exact ⟨_, _, kvs, rfl, rfl, .inl q1, q2, by rw [e]; exact kk _ _ (Same.refl _) (r.data fun _ => .bl _)⟩
  · rename_i kos
    cases hf
    obtain ⟨b1, h1⟩ := hw (x, .gD kos) (by simp)
    obtain ⟨b2, h2⟩ := hw (y, .dT []) (by simp)
    cases h1 with
    | gD q1 k1 t1 =>
      cases h2 with
      | dT q2 k2 t2 =>
        rename_i ob kvs _ kv2 _
        obtain rfl : kv2 = [] := by simpa using k2.1
        have e : kvs.isEmpty = kos.isEmpty := by
          have := congrArg List.length k1
          simp at this
          cases kvs <;> cases kos <;> simp_all
        exact ⟨_, _, kvs, rfl, rfl, .inr ⟨_, s _ _ q1⟩, q2, by rw [e]; exact kk _ _ (Same.refl _) (r.data fun _ => .bl _)⟩
  · cases hf
end
end Z
namespace Z
open PySem PySem.Spec L2
section
variable {X : Cx} {W : WX} {pu pv : Bool} {H H' : Hp} {Ex : List (Addr × HO)} {σ : L2.St} {g : Gs} {T T' ws ws' : Roots} {e a b : Expr} {es : List Expr} {m : M O} {ms : M (List O)} {pos : Pos} {k np : Nat}
def dput1 (i : Nat) (mi : M O) (o : O) : M Unit := M.bd mi fun ok g => match ok with
  | .d (.tuple ds) => match intsOf ds with
    | some is => match g[i]? with
      | some (some (.dT kos)) => if (atT kos (kk is)).isNone = true ∧ kos.length < 16777216 then .ok () (g.set i (some (.dT (kos ++ [(kk is, o)])))) else .bad
      | _ => .bad
    | none => .bad
  | _ => .bad
def dputM (i : Nat) (mi : M O) (o : O) : M Unit := fun g => match g[i]? with
  | some (some _) => dput1 i mi o g
  | _ => .bad
theorem atT_keys {α β : Type} : ∀ {xs : List (List Key × α)} {ys : List (List Key × β)} {k : List Key}, xs.map (·.1) = ys.map (·.1) → (atT ys k).isNone = true → (xs.any fun kv => decide (kv.1 = k)) = false
  | [], [], k, _, _ => rfl
  | x :: xs, y :: ys, k, h, hn => by
    simp only [List.map_cons, List.cons.injEq] at h
    unfold atT at hn
    simp only [List.find?_cons] at hn
    by_cases e : y.1 = k
    · simp [e] at hn
    · have e' : ¬ x.1 = k := fun z => e (h.1 ▸ z)
      simp only [e, decide_false] at hn
      simp only [List.any_cons, e', decide_false, Bool.false_or]
      exact atT_keys h.2 (by unfold atT; exact hn)
  | [], _ :: _, _, h, _ => by simp at h
  | _ :: _, [], _, h, _ => by simp at h
theorem At.dputAt {i : Nat} {kos : List (List Key × O)} {o : O} {v y : V} {k : List Key} (a : At X H Ex σ g ((y, o) :: T) ws) (hg : g[i]? = some (some (.dT kos))) (hv : σ[i]? = some (some v)) (hn : (atT kos k).isNone = true) : ∃ ad kvs, v = .ref ad ∧ H ad = some (.dT kvs) ∧ kvs.length = kos.length ∧ putK kvs k y = kvs ++ [(k, y)] ∧
    At X (upd H ad (.dT (kvs ++ [(k, y)]))) Ex σ (g.set i (some (.dT (kos ++ [(k, o)])))) T [] := by
  have r := (a.get hg hv).noviews
  obtain ⟨ad, ho, vs, os1, e1, e2, p, hl, r2⟩ := r.opn rfl
  cases p with
  | dT hk =>
    rename_i kvs
    have hlen : kvs.length = kos.length := by have := congrArg List.length hk.1; simpa using this
    refine ⟨ad, kvs, e1, e2, hlen, ?_, ?_⟩
    · unfold putK
      rw [if_neg (by rw [atT_keys hk.1 hn]; simp)]
    · subst e1
      have hk2 : Keq ((kvs ++ [(k, y)]).map (·.1)) ((kos ++ [(k, o)]).map (·.1)) := ⟨by simp [hk.1], by
        rw [List.map_append]
        refine List.nodup_append.mpr ⟨hk.2, by simp, fun a ha b hb z => ?_⟩
        simp only [List.map_cons, List.map_nil, List.mem_singleton] at hb
        subst hb; subst z
        have := atT_keys (xs := kvs) hk.1 hn
        obtain ⟨p, hp, e⟩ := List.mem_map.mp ha
        have hm : p.1 ∈ kvs.map (·.1) := by rw [hk.1]; exact List.mem_map.mpr ⟨p, hp, rfl⟩
        obtain ⟨q, hq, eq⟩ := List.mem_map.mp hm
        rw [List.any_eq_false] at this
        exact this q hq (by simpa using eq.trans e)⟩
      refine .put a.fit hv (((r2.write (.dT (kvs ++ [(k, y)]))).perm ?_).shut (vs := (kvs ++ [(k, y)]).map (·.2)) (os := (kos ++ [(k, o)]).map (·.2)) (.dT hk2) (by simp [hlen]))
      rw [List.map_append, List.map_append, List.zip_append (by simpa using hlen)]
      simp only [List.map_cons, List.map_nil, List.zip_cons_cons, List.zip_nil_right, List.append_assoc, List.cons_append, List.nil_append]
      exact List.Perm.append_left _ List.perm_middle
theorem eg_dput (i : Nat) {xn : Str} {pp : Pos} (c : Cc X W k) (h : Ev X W pu b m) (hN : X.N[i]? = some xn := by rfl) (hv : Vis X.env.scope xn := by first | exact Or.inl rfl | exact Or.inr (Or.inl rfl) | exact Or.inr (Or.inr rfl)) (hdd1 : (xn == ("__debug__" : Str)) = false := by decide) (hcd : (xn == ("__classdict__" : Str)) = false := by decide)
    (ha : ∀ v, assign (.Subscript (.Name xn pp) b pos) X.env v = (do
      let ov ← holding [v] (eval (.Name xn pp) X.env)
      let iv ← holding [v, ov] (eval b X.env)
      standAt pos
      holding [v, ov, iv] (setItem ov iv v)
      release [v, ov, iv] []) := by intro _; rfl) : EvG X W np (.Subscript (.Name xn pp) b pos) (dputM i m) := by
  obtain ⟨t, h1, h2⟩ := h.ex
  refine ⟨_, pg_sub (L2.pv i hN hv hdd1 hcd) h1 (set_dict (by have := c.hr.units; omega)) ha, fun σ H Q g T Ex v o at0 w => ?_⟩
  unfold dputM at w
  split at w
  · rename_i o0 hg0
    obtain ⟨u, hu⟩ := at0.fit.at_ _ _ hg0
    refine ⟨u, hu, ?_⟩
    refine h2 σ H _ g _ Ex [] at0 (w.bd.imp (fun oi g' kq y H' s a' => ?_) fun x g' kq H' cls d a2 e => kq σ H' cls d .refl a2.drop e)
    split at kq
    · rename_i ds
      split at kq
      · rename_i is hi
        have := intsOf_eq hi
        subst this
        obtain ⟨Hf, s1, hdp, _⟩ := a'.top.headDp
        obtain ⟨bk, rfl, hb⟩ := dpKey hdp
        have hbH := s1 _ _ hb
        split at kq
        · rename_i kos hg
          split at kq
          · rename_i hc
            obtain ⟨ad, kvs, e3, e4, hl', hp, a3⟩ := a'.drop.dputAt hg hu hc.1
            subst e3
            refine ⟨ad, _, rfl, .inr ⟨kvs, kk is, bk, e4, rfl, hbH, by rw [hl', sizeLine_eq]; exact hc.2, rfl⟩, ?_⟩
            rw [hp]
            exact kq σ _ .refl a3
          · exact kq.elim
        · exact kq.elim
      · exact kq.elim
    · exact kq.elim
  · exact w.elim
def pairsOf : List PyData → Option (List (List Key × PyData))
  | [] => some []
  | .tuple [.tuple ks, x] :: r => match intsOf ks, pairsOf r with
    | some is, some t => some ((kk is, x) :: t)
    | _, _ => none
  | _ :: _ => none
def dtF : List O → Option O
  | [a] => match asL a with
    | some ds => match pairsOf ds with
      | some kds => if (kds.map (·.1)).Nodup then some (.dT (kds.map fun p => (p.1, .d p.2))) else none
      | none => none
    | none => none
  | _ => none
theorem pairs_dp {K : PySem.W.Frag} {H : Hp} : ∀ {vs : List V} {ds : List PyData} {kds : List (List Key × PyData)}, DpAll K H vs ds → pairsOf ds = some kds →
    ∃ (ps : List Addr) (ts : List TrP), vs = ps.map V.ref ∧ Paired (TrR K H) ps ts ∧ ts.map (·.1) = kds.map (·.1) ∧ DpAll K H (ts.map (·.2.2)) (kds.map (·.2))
  | [], [], kds, .nil, h => by simp only [pairsOf, Option.some.injEq] at h; subst h; exact ⟨[], [], rfl, .nil, rfl, .nil⟩
  | v :: vs, d :: ds, kds, .cons h t, e => by
    unfold pairsOf at e
    split at e
    · cases ‹_ :: _ = []›
    · rename_i ks x r heq
      simp only [List.cons.injEq] at heq
      obtain ⟨rfl, rfl⟩ := heq
      split at e
      · rename_i is t' hi ht
        cases e
        obtain ⟨ps, ts, e1, e2, e3, e4⟩ := pairs_dp t ht
        have := intsOf_eq hi
        subst this
        cases h with
        | tup q i u =>
          cases u with
          | cons u1 u2 =>
            cases u2 with
            | cons u2 u3 =>
              cases u3
              rename_i pa v1 v2
              obtain ⟨bk, rfl, hb⟩ := dpKey u1
              exact ⟨pa :: ps, (kk is, bk, v2) :: ts, by rw [e1]; rfl, .cons ⟨SqT.of q, hb⟩ e2, by simp [e3], .cons u2 e4⟩
        | ftup _ _ j _ => simp [idxS] at j
      · cases e
    · cases e
theorem pr_dt : PR X (rDictT X.K) dtF := by
  intro xs os H Ex rs ws Q o hl r hf kq
  unfold dtF at hf
  split at hf
  · rename_i a'
    split at hf
    · rename_i ds ha
      split at hf
      · rename_i kds hk
        split at hf
        · rename_i hn
          cases hf
          obtain ⟨x, rfl⟩ := one hl
          obtain ⟨Hf, s, hw, cl⟩ := r.fr
          obtain ⟨b1, h1⟩ := hw (x, a') zipHead
          obtain ⟨ad, vs, rfl, q1, q2⟩ := owL s h1 ha
          obtain ⟨ps, ts, e1, e2, e3, e4⟩ := pairs_dp q2 hk
          subst e1
          have e2' : Paired (TrR X.K H) ps ts := Paired.mapP e2 fun _ _ z => ⟨sameT s.same z.1, s _ _ z.2⟩
          refine ⟨ad, ps, ts, rfl, q1, e2', by rw [e3]; exact hn, fun p hp => ?_⟩
          refine kq _ _ (sameNew hp _) ?_
          have r1 := cl _ _ e4
          have hkk : (ts.map fun t => (t.1, t.2.2)).map (·.1) = (kds.map fun p => (p.1, O.d p.2)).map (·.1) := by
            simpa [List.map_map, Function.comp_def] using e3
          have hv1 : (ts.map fun t => (t.1, t.2.2)).map (·.2) = ts.map (·.2.2) := by simp [List.map_map, Function.comp_def]
          have hv2 : (kds.map fun p => (p.1, O.d p.2)).map (·.2) = (kds.map (·.2)).map O.d := by simp [List.map_map, Function.comp_def]
          have hlen : ts.length = kds.length := by have := congrArg List.length e3; simpa using this
          have r2 : Rel X.K X.mg H Ex (((ts.map fun t => (t.1, t.2.2)).map (·.2)).zip ((kds.map fun p => (p.1, O.d p.2)).map (·.2)) ++ rs) ([V.ref ad].zip [a'] ++ ws) := by
            rw [hv1, hv2]
            exact r1
          exact (r2.new (.dT (ts.map fun t => (t.1, t.2.2))) hp).shut (.dT ⟨hkk, by simpa [List.map_map, Function.comp_def] using hn⟩) (by simp [hlen])
        · cases hf
      · cases hf
    · cases hf
  · cases hf
def gdOf : List (List Key × O) → Option (List (List Key × PyData))
  | [] => some []
  | (k, .d x) :: r => match gdOf r with | some t => some ((k, x) :: t) | none => none
  | _ :: _ => none
def itDM (i : Nat) : M (List PyData) := fun g => match g[i]? with
  | some (some (.dT kos)) => match gdOf kos with
    | some kds => if (kds.all fun p => p.1.all kI) = true then .ok (kds.map fun p => tupD p.1) (g.set i (some (.gD kds))) else .bad
    | none => .bad
  | some (some (.gD kds)) => if (kds.all fun p => p.1.all kI) = true then .ok (kds.map fun p => tupD p.1) g else .bad
  | _ => .bad
theorem gdOf_map : ∀ {kos : List (List Key × O)} {kds : List (List Key × PyData)}, gdOf kos = some kds → kos = kds.map fun p => (p.1, O.d p.2)
  | [], kds, h => by simp only [gdOf, Option.some.injEq] at h; subst h; rfl
  | (k, o) :: r, kds, h => by
    cases o with
    | d x =>
      simp only [gdOf] at h
      cases q : gdOf r with
      | none => rw [q] at h; cases h
      | some t => rw [q] at h; cases h; rw [List.map_cons, ← gdOf_map q]
    | _ => simp [gdOf] at h
theorem Rel.lockD {K : PySem.W.Frag} {mg : Str → Option Value} {rs : Roots} {v : V} {kds : List (List Key × PyData)} (r : Rel K mg H Ex ((v, .dT (kds.map fun p => (p.1, O.d p.2))) :: rs) ws) :
    ∃ ad kvs, v = .ref ad ∧ H ad = some (.dT kvs) ∧ kvs.map (·.1) = kds.map (·.1) ∧ ∀ od, Rel K mg (upd H ad (.frz od (.dT kvs))) Ex ((v, .gD kds) :: (v, .pin (.frz od (.dT kvs))) :: rs) [] := by
  obtain ⟨Hf, as, s, he, ho, nd, hn, hw⟩ := r.ex
  cases ho with
  | cons h t =>
    rename_i a1 a2
    cases h with
    | dT q kq tq =>
      rename_i ad kvs cs
      have hk : kvs.map (·.1) = kds.map (·.1) := by rw [kq.1]; simp [List.map_map, Function.comp_def]
      refine ⟨ad, kvs, rfl, q, hk, fun od => ?_⟩
      have adn := hn ad (by simp)
      have nd2 : ad ∉ Ex.map (·.1) ∧ ad ∉ a2 := by
        have hp : (Ex.map (·.1) ++ (ad :: cs ++ a2)).Perm (ad :: (Ex.map (·.1) ++ (cs ++ a2))) := by
          rw [List.cons_append]
          exact List.perm_middle
        have := (List.nodup_cons.mp (hp.nodup_iff.mp nd)).1
        exact ⟨fun m => this (List.mem_append_left _ m), fun m => this (List.mem_append_right _ (List.mem_append_right _ m))⟩
      have sub : (Ex.map (·.1) ++ a2).Sublist (Ex.map (·.1) ++ (ad :: cs ++ a2)) := (List.sublist_append_right _ _).append_left _
      have hne : ∀ a ∈ Ex.map (·.1) ++ a2, a ≠ ad := fun a m z => by
        subst z
        rcases List.mem_append.mp m with m | m
        · exact nd2.1 m
        · exact nd2.2 m
      have s1 : Hf.le ⟨upd Hf.h ad (.frz od (.dT kvs)), Hf.m⟩ := ⟨fun b o e => by
        show upd Hf.h ad (.frz od (.dT kvs)) b = some o
        rw [upd_ne (fun z => by rw [z, adn.1.1] at e; cases e)]; exact e, fun _ _ h => h⟩
      have s2 : Fz.on K ⟨upd Hf.h ad (.frz od (.dT kvs)), Hf.m⟩ (upd H ad (.frz od (.dT kvs))) := ⟨fun b o e => by
        have e : upd Hf.h ad (.frz od (.dT kvs)) b = some o := e
        by_cases z : b = ad
        · subst z; rw [upd_same] at e ⊢; exact e
        · rw [upd_ne z] at e ⊢; exact s b o e, fun a g e => by
        have e : Hf.m a = some g := e
        obtain ⟨h1, kvs', h2, h3⟩ := s.mem a g e
        have z : a ≠ ad := fun z => by rw [z, adn.1.2] at e; cases e
        refine ⟨?_, kvs', ?_, memMono s1.h h3⟩
        · show upd Hf.h ad (.frz od (.dT kvs)) a = none
          rw [upd_ne z]; exact h1
        · rw [upd_ne z]; exact h2⟩
      have hv : DpAll K Hf.h (kvs.map (·.2)) (kds.map (·.2)) := by
        have e : (kds.map fun p => (p.1, O.d p.2)).map (·.2) = (kds.map (·.2)).map O.d := by simp [List.map_map, Function.comp_def]
        rw [e] at tq
        exact owAllD0 tq (allD_map _)
      refine ⟨⟨upd Hf.h ad (.frz od (.dT kvs)), Hf.m⟩, a2, s2, fun p m => ?_, .cons (as := []) (.gD upd_same hk (dpAllMono s1.h hv)) (.cons (as := []) (.pin upd_same) (owLMono s1 t fun a m => upd_ne (hne a (List.mem_append_right _ m)))), nd.sublist sub, fun a m => ⟨?_, fun xs e => ?_⟩, fun _ h => nomatch h⟩
      · rw [upd_ne (hne _ (List.mem_append_left _ (List.mem_map.mpr ⟨p, m, rfl⟩)))]
        exact he p m
      · refine ⟨?_, (hn a (sub.subset m)).1.2⟩
        show upd Hf.h ad (.frz od (.dT kvs)) a = none
        rw [upd_ne (hne a m)]
        exact (hn a (sub.subset m)).1.1
      · rw [upd_ne (hne a m)] at e
        exact (hn a (sub.subset m)).2 xs e
theorem Rel.dupG {K : PySem.W.Frag} {mg : Str → Option Value} {rs : Roots} {v : V} {kds : List (List Key × PyData)} (r : Rel K mg H Ex ((v, .gD kds) :: rs) ws) : Rel K mg H Ex ((v, .gD kds) :: (v, .gD kds) :: rs) ws := by
  obtain ⟨Hf, as, s, he, ho, nd, hn, hw⟩ := r.ex
  cases ho with
  | cons h t =>
    cases h with
    | gD h1 h2 h3 => exact ⟨Hf, _, s, he, .cons (.gD h1 h2 h3) (.cons (.gD h1 h2 h3) t), nd, hn, hw⟩
theorem Rel.pinG {K : PySem.W.Frag} {mg : Str → Option Value} {rs : Roots} {v : V} {kds : List (List Key × PyData)} (r : Rel K mg H Ex ((v, .gD kds) :: rs) ws) :
    ∃ ad o kvs, v = .ref ad ∧ H ad = some (.frz o (.dT kvs)) ∧ kvs.map (·.1) = kds.map (·.1) ∧ Rel K mg H Ex ((v, .gD kds) :: (v, .pin (.frz o (.dT kvs))) :: rs) ws := by
  obtain ⟨Hf, as, s, he, ho, nd, hn, hw⟩ := r.ex
  cases ho with
  | cons h t =>
    cases h with
    | gD h1 h2 h3 => exact ⟨_, _, _, rfl, s _ _ h1, h2, ⟨Hf, _, s, he, .cons (.gD h1 h2 h3) (.cons (.pin h1) t), nd, hn, hw⟩⟩
theorem Rel.pinned {K : PySem.W.Frag} {mg : Str → Option Value} {rs : Roots} {v : V} {a : Addr} {u : HO} {o : O} (r : Rel K mg H Ex ((v, o) :: (.ref a, .pin u) :: rs) ws) : H a = some u := by
  obtain ⟨Hf, as, s, he, ho, nd, hn, hw⟩ := r.ex
  cases ho with
  | cons h t =>
    cases t with
    | cons h2 t2 => cases h2 with | pin q => exact s _ _ q
theorem keyInts : ∀ {k : List Key}, k.all kI = true → ∃ is : List Int, k = kk is
  | [], _ => ⟨[], rfl⟩
  | .inl i :: r, h => by
    obtain ⟨is, e⟩ := keyInts (k := r) (by simpa [kI] using h)
    exact ⟨i :: is, by rw [e]; rfl⟩
  | .inr s :: r, h => by simp [kI] at h
theorem tupD_kk (is : List Int) : tupD (kk is) = .tuple (is.map PyData.int) := by
  unfold tupD kk
  rw [List.map_map]
  rfl
theorem dpOfInts {K : PySem.W.Frag} {Hf : Hp} : ∀ is : List Int, DpAll K Hf ((kk is).map kV) (is.map PyData.int)
  | [] => .nil
  | i :: r => .cons (.int i) (dpOfInts r)
theorem wkKT {K : PySem.W.Frag} {mg : Str → Option Value} {d : Addr} {o : Obj} {kvs : List (List Key × V)} {kds : List (List Key × PyData)} (hk : kvs.map (·.1) = kds.map (·.1)) (ha : (kds.all fun p => p.1.all kI) = true) :
    Wk K mg (Itkt d o kvs) [(.ref d, .gD kds), (.ref d, .pin (.frz o (.dT kvs)))] (kds.map fun p => tupD p.1) where
  go := fun i H Ex rs hi r => by
    have hl : kvs.length = kds.length := by have := congrArg List.length hk; simpa using this
    exact ⟨r.pinned, by simpa [hl] using hi⟩
  stop := fun i H Ex rs hi r => by
    have hl : kvs.length = kds.length := by have := congrArg List.length hk; simpa using this
    exact ⟨r.pinned, by simpa [hl] using hi⟩
  yld := fun i H Ex rs x H' hi r y => by
    obtain ⟨e, k, v, q, e1, e2, e3⟩ := y
    subst e; subst e2
    refine ⟨Same.refl _, ?_⟩
    have hlt : i < kds.length := by simpa using hi
    have hkd : kds[i].1 = k := by
      have := congrArg (fun l => l[i]?) hk
      simp only [List.getElem?_map, e1, Option.map_some, List.getElem?_eq_getElem hlt, Option.some.injEq] at this
      exact this.symm
    have hki : k.all kI = true := by
      have := List.all_eq_true.mp ha kds[i] (List.getElem_mem hlt)
      rw [hkd] at this
      exact this
    obtain ⟨is, rfl⟩ := keyInts hki
    have e4 : (kds.map fun p => tupD p.1)[i] = .tuple (is.map PyData.int) := by rw [List.getElem_map, hkd, tupD_kk]
    rw [e4]
    refine r.adopt e3 (fun b m => ?_) (idxInts is) fun Hf => dpOfInts is
    unfold kk at m
    rw [List.map_map] at m
    obtain ⟨i, _, h⟩ := List.mem_map.mp m
    cases h
def tLk (t : TE) : TE := fun σ H Q => t σ H fun v H1 => (∃ d u, v = .ref d ∧ H1 d = some u ∧ Mut (some u) ∧ ∀ od, Q v (upd H1 d (.frz od u))) ∨ Q v H1
theorem pe_lk {t : TE} (h : PE X e t) : PE X e (tLk t) := ⟨fun pins s σ H Q I hw => thn (h.run pins s σ H _ I hw) fun v s1 ⟨x, H1, I1, r, q⟩ => by
  rcases q with ⟨d, u, rfl, hd, mu, q⟩ | q
  · obtain ⟨od, I2⟩ := I1.lock hd mu
    exact ⟨.ref d, _, I2, r, q od⟩
  · exact ⟨x, H1, I1, r, q⟩⟩
theorem permTk {α : Type} {x y : α} {R T : List α} : (x :: x :: y :: (R ++ T)).Perm (x :: (R ++ ([x, y] ++ T))) := by
  refine .cons _ ?_
  refine List.Perm.trans ?_ (List.perm_append_comm_assoc [x, y] R T)
  exact .refl _
theorem ei_dict {tg : Expr} (i : Nat) {x : Str} (hN : X.N[i]? = some x := by rfl) (hv : Vis X.env.scope x := by first | exact Or.inl rfl | exact Or.inr (Or.inl rfl) | exact Or.inr (Or.inr rfl)) (hd : (x == ("__debug__" : Str)) = false := by decide)
    (hcd : (x == ("__classdict__" : Str)) = false := by decide) : EvI X W false tg (.Name x pos) (itDM i) := by
  refine ⟨_, pi_keys (pe_lk (L2.pv i hN hv hd hcd)), fun σ H R g T Ex ws a w => ?_⟩
  unfold itDM at w
  split at w
  · rename_i kos hg
    split at w
    · rename_i kds hk
      split at w
      · rename_i ha
        obtain ⟨v, hv⟩ := a.fit.at_ _ _ hg
        have := gdOf_map hk
        subst this
        obtain ⟨ad, kvs, rfl, q, hkk, hL⟩ := (a.get hg hv).lockD
        refine ⟨_, hv, .inl ⟨ad, .dT kvs, rfl, q, trivial, fun od => ⟨ad, od, rfl, .inr ⟨kvs, upd_same, ?_⟩⟩⟩⟩
        exact w _ _ [(.ref ad, .gD kds), (.ref ad, .pin (.frz od (.dT kvs)))] (wkKT hkk ha) (fun z => by cases z) (.put a.fit hv ((hL od).dupG.perm permTk))
      · exact w.elim
    · exact w.elim
  · rename_i kds hg
    split at w
    · rename_i ha
      obtain ⟨v, hv⟩ := a.fit.at_ _ _ hg
      obtain ⟨ad, o, kvs, rfl, q, hkk, hL⟩ := (a.get hg hv).noviews.pinG
      refine ⟨_, hv, .inr ⟨ad, o, rfl, .inr ⟨kvs, q, ?_⟩⟩⟩
      have at2 := At.put a.fit hv (hL.dupG.perm permTk)
      rw [setGet hg] at at2
      exact w _ _ [(.ref ad, .gD kds), (.ref ad, .pin (.frz o (.dT kvs)))] (wkKT hkk ha) (fun z => by cases z) at2
    · exact w.elim
  · exact w.elim
end
end Z
namespace Z
open PySem PySem.Spec L2
theorem boot_dict_ : bootBuiltins "dict" = some (.type "dict") := by decide +kernel
section
variable {X : Cx} {W : WX} {pu pv : Bool} {H H' : Hp} {Ex : List (Addr × HO)} {σ : L2.St} {g : Gs} {T T' ws ws' : Roots} {e a b d : Expr} {es : List Expr} {m : M O} {ms : M (List O)} {pos : Pos} {k np : Nat}
theorem unit0 (c : Cc X W k) : X.A.units < cLine := by have := c.hr.units; omega
theorem unit64 (c : Cc X W k) : X.A.units + 64 < cLine := c.hr.units
def par2M (i j : Nat) (ms : M (List O)) : M Fl := M.bd ms fun os g => match os with
  | [a, b] => .ok .next ((g.set i (some a)).set j (some b))
  | _ => .bad
def par3M (i j l : Nat) (ms : M (List O)) : M Fl := M.bd ms fun os g => match os with
  | [a, b, c] => .ok .next (((g.set i (some a)).set j (some b)).set l (some c))
  | _ => .bad
theorem es_par2 (i j : Nat) {x y : Str} {px py pt pt2 : Pos} {kt k2 : Nat} (c : Cc X W k) (hnp : np ≤ i) (hnq : np ≤ j) (hN : X.N.Nodup) (hi : X.N[i]? = some x) (hj : X.N[j]? = some y) (hij : i ≠ j)
    (hx : X.env.scope.names.lookup x = some .local) (hy : X.env.scope.names.lookup y = some .local) (h : EvEs X W pu [a, b] ms)
    (hw : swappedStores [.Tuple [.Name x px, .Name y py] kt pt] (.Tuple [a, b] k2 pt2) X.env = pure (some [x, y]) := by rfl)
    (hs : swapsWithSole [.Tuple [.Name x px, .Name y py] kt pt] (.Tuple [a, b] k2 pt2) pos.line X.env = pure false := by rfl) :
    EvS X W np (.Assign [.Tuple [.Name x px, .Name y py] kt pt] (.Tuple [a, b] k2 pt2) pos) (par2M i j ms) := by
  obtain ⟨ts, g1, g2⟩ := h.ex
  refine ⟨_, ps_par c.calm hN hi hj hij hx hy g1.pa hw hs, fun σ H D g T Ex a0 w => ?_⟩
  refine g2 σ H _ g T Ex [] a0 (w.bd.imp (fun os g' kq vs H' hl s a' => ?_) fun x g' kq H' cls d a2 e => kq σ H' cls d .refl a2 e)
  split at kq
  · rename_i o1 o2
    obtain ⟨v, u, rfl⟩ : ∃ v u, vs = [v, u] := by
      match vs, hl with
      | [v, u], _ => exact ⟨v, u, rfl⟩
    refine ⟨v, u, rfl, kq _ H' ((Pin.set hnp).trans (Pin.set hnq)) ?_⟩
    have a1 : At X H' Ex σ g' ((v, o1) :: (u, o2) :: T) [] := a'.noV
    exact a1.storeAny.storeAny
  · exact kq.elim
theorem es_par3 (i j l : Nat) {x y z : Str} {px py pz pt pt2 : Pos} {kt k2 : Nat} (c : Cc X W k) (hnp : np ≤ i) (hnq : np ≤ j) (hnr : np ≤ l) (hN : X.N.Nodup) (hi : X.N[i]? = some x) (hj : X.N[j]? = some y) (hl : X.N[l]? = some z) (hij : i ≠ j) (hil : i ≠ l) (hjl : j ≠ l)
    (hx : X.env.scope.names.lookup x = some .local) (hy : X.env.scope.names.lookup y = some .local) (hz : X.env.scope.names.lookup z = some .local) (h : EvEs X W pu [a, b, d] ms)
    (hw : swappedStores [.Tuple [.Name x px, .Name y py, .Name z pz] kt pt] (.Tuple [a, b, d] k2 pt2) X.env = pure (some [x, y, z]) := by rfl)
    (hs : swapsWithSole [.Tuple [.Name x px, .Name y py, .Name z pz] kt pt] (.Tuple [a, b, d] k2 pt2) pos.line X.env = pure false := by rfl) :
    EvS X W np (.Assign [.Tuple [.Name x px, .Name y py, .Name z pz] kt pt] (.Tuple [a, b, d] k2 pt2) pos) (par3M i j l ms) := by
  obtain ⟨ts, g1, g2⟩ := h.ex
  refine ⟨_, ps_par3 c.calm hN hi hj hl hij hil hjl hx hy hz g1.pa hw hs, fun σ H D g T Ex a0 w => ?_⟩
  refine g2 σ H _ g T Ex [] a0 (w.bd.imp (fun os g' kq vs H' hl s a' => ?_) fun x g' kq H' cls d a2 e => kq σ H' cls d .refl a2 e)
  split at kq
  · rename_i o1 o2 o3
    obtain ⟨v, u, t, rfl⟩ : ∃ v u t, vs = [v, u, t] := by
      match vs, hl with
      | [v, u, t], _ => exact ⟨v, u, t, rfl⟩
    refine ⟨v, u, t, rfl, kq _ H' (((Pin.set hnp).trans (Pin.set hnq)).trans (Pin.set hnr)) ?_⟩
    have a1 : At X H' Ex σ g' ((v, o1) :: (u, o2) :: (t, o3) :: T) [] := a'.noV
    exact a1.storeAny.storeAny.storeAny
  · exact kq.elim
end
section
variable {A : O → Gs → Prop} {AF : Fl → Gs → Prop} {AU : Unit → Gs → Prop} {AD : List PyData → Gs → Prop} {B : Exn → Gs → Prop} {g g' g1 g2 g3 : Gs} {m n : M O} {ms : M (List O)} {i j l : Nat} {o p q : O} {os : List O} {AO : O → Prop} {x : Int} {ds es : List PyData} {d : PyData} {is : List Int} {kos : List (List Key × O)} {kds : List (List Key × PyData)}
def Par2K (i j : Nat) (AF : Fl → Gs → Prop) (os : List O) (g : Gs) : Prop := ∃ a b, os = [a, b] ∧ AF .next ((g.set i (some a)).set j (some b))
def Par3K (i j l : Nat) (AF : Fl → Gs → Prop) (os : List O) (g : Gs) : Prop := ∃ a b c, os = [a, b, c] ∧ AF .next (((g.set i (some a)).set j (some b)).set l (some c))
instance s_par2 : Stp (Wp (par2M i j ms g) AF B) (Wp (ms g) (Par2K i j AF) B) := ⟨fun h => by
  unfold par2M
  refine (wp_bd (m := ms)).mpr (h.mono (fun os g1 q => ?_) fun _ _ z => z)
  obtain ⟨a, b, rfl, q⟩ := q
  exact q⟩
instance s_par2K [h1 : Put g i (some o) g1] [h2 : Put g1 j (some p) g2] : Stp (Par2K i j AF [o, p] g) (AF .next g2) := ⟨fun h => ⟨o, p, rfl, by rw [h1.put, h2.put]; exact h⟩⟩
instance s_par3 : Stp (Wp (par3M i j l ms g) AF B) (Wp (ms g) (Par3K i j l AF) B) := ⟨fun h => by
  unfold par3M
  refine (wp_bd (m := ms)).mpr (h.mono (fun os g1 q => ?_) fun _ _ z => z)
  obtain ⟨a, b, c, rfl, q⟩ := q
  exact q⟩
instance s_par3K [h1 : Put g i (some o) g1] [h2 : Put g1 j (some p) g2] [h3 : Put g2 l (some q) g3] : Stp (Par3K i j l AF [o, p, q] g) (AF .next g3) := ⟨fun h => ⟨o, p, q, rfl, by rw [h1.put, h2.put, h3.put]; exact h⟩⟩
instance s_newT : Stp (Wp (newTM g) A B) (A (.dT []) g) := ⟨id⟩
instance o_eqE0 : Stp (optW (eqEF [.dT kos, .dT []]) AO) (AO (.d (.bool kos.isEmpty))) := ⟨id⟩
instance o_eqE1 : Stp (optW (eqEF [.gD kds, .dT []]) AO) (AO (.d (.bool kds.isEmpty))) := ⟨id⟩
instance o_dgD [t : ItsC ds is] : Stp (optW (dgF [.gD kds, .d (.tuple ds)]) AO) (optW (atT kds (kk is)) fun x => AO (.d x)) := ⟨fun h => by
  rw [t.eq]
  unfold dgF
  simp only [intsOf_map, dgV]
  revert h
  cases atT kds (kk is) <;> exact id⟩
instance o_diD [t : ItsC ds is] : Stp (optW (diF false [.d (.tuple ds), .gD kds]) AO) (AO (.d (.bool (atT kds (kk is)).isSome))) := ⟨fun h => by
  rw [t.eq]
  unfold diF
  simp only [intsOf_map, dhV]
  exact h⟩
instance o_dnD [t : ItsC ds is] : Stp (optW (diF true [.d (.tuple ds), .gD kds]) AO) (AO (.d (.bool (!(atT kds (kk is)).isSome)))) := ⟨fun h => by
  rw [t.eq]
  unfold diF
  simp only [intsOf_map, dhV]
  exact h⟩
instance o_inD [c : LsC o ds] : Stp (optW (inDF false [.d d, o]) AO) (Sd (SeqAt.shaped d = true ∧ SeqAt.shaped (.list ds) = true) (AO (.d (.bool (ds.any fun z => PyData.eqv z d))))) := ⟨fun h => by
  unfold inDF
  simp only [c.eq, h.l, and_self, if_true]
  exact h.r⟩
instance o_ninD [c : LsC o ds] : Stp (optW (inDF true [.d d, o]) AO) (Sd (SeqAt.shaped d = true ∧ SeqAt.shaped (.list ds) = true) (AO (.d (.bool (!ds.any fun z => PyData.eqv z d))))) := ⟨fun h => by
  unfold inDF
  simp only [c.eq, h.l, and_self, if_true]
  exact h.r⟩
theorem atT_dt (k : List Key) : ∀ kds : List (List Key × PyData), atT (kds.map fun p => (p.1, O.d p.2)) k = (atT kds k).map O.d
  | [] => rfl
  | p :: r => by
    have ih := atT_dt k r
    unfold atT at ih ⊢
    simp only [List.map_cons, List.find?_cons]
    by_cases e : p.1 = k
    · simp [e]
    · simp only [e, decide_false]
      exact ih
def DpK (i : Nat) (o : O) (AU : Unit → Gs → Prop) : O → Gs → Prop
  | .d (.tuple ds), g => ∃ is kos, ds = is.map PyData.int ∧ g[i]? = some (some (.dT kos)) ∧ (atT kos (kk is)).isNone = true ∧ kos.length < 16777216 ∧ AU () (g.set i (some (.dT (kos ++ [(kk is, o)]))))
  | _, _ => False
instance s_dput [h : Get g i (some p)] : Stp (Wp (dputM i m o g) AU B) (Wp (m g) (DpK i o AU) B) := ⟨fun k => by
  unfold dputM
  rw [h.get]
  show Wp (dput1 i m o g) AU B
  unfold dput1
  refine (wp_bd (m := m)).mpr (k.mono (fun oi g1 q => ?_) fun _ _ z => z)
  unfold DpK at q
  split at q
  · obtain ⟨is, kos, rfl, e1, e2, e3, q⟩ := q
    simp only [intsOf_map, e1, e2, e3, and_self, if_true]
    exact q
  · exact q.elim⟩
instance s_dpK [t : ItsC ds is] [h : Get g i (some (.dT kos))] [pp : Put g i (some (.dT (kos ++ [(kk is, o)]))) g'] : Stp (DpK i o AU (.d (.tuple ds)) g) (Sd ((atT kos (kk is)).isNone = true) (Sd (kos.length < 16777216) (AU () g'))) := ⟨fun k => ⟨is, kos, t.eq, h.get, k.l, k.r.l, by rw [pp.put]; exact k.r.r⟩⟩
/-- a dict of data by tuples of ints, walked -/
theorem wp_itDT (h : g[i]? = some (some (.dT (kds.map fun p => (p.1, O.d p.2))))) (ha : (kds.all fun p => p.1.all kI) = true) (k : AD (kds.map fun p => tupD p.1) (g.set i (some (.gD kds)))) : Wp (itDM i g) AD B := by
  have e : ∀ kds : List (List Key × PyData), gdOf (kds.map fun p => (p.1, O.d p.2)) = some kds := by
    intro kds
    induction kds with
    | nil => rfl
    | cons p r ih => simp [gdOf, ih]
  unfold itDM
  rw [h]
  simp only [e, ha, if_true]
  exact k
theorem wp_itGD (h : g[i]? = some (some (.gD kds))) (ha : (kds.all fun p => p.1.all kI) = true) (k : AD (kds.map fun p => tupD p.1) g) : Wp (itDM i g) AD B := by
  unfold itDM
  rw [h]
  simp only [ha, if_true]
  exact k
theorem wp_dict {a : O} (h : asL a = some ds) (hp : pairsOf ds = some kds) (hn : (kds.map (·.1)).Nodup) (k : AO (.dT (kds.map fun p => (p.1, .d p.2)))) : optW (dtF [a]) AO := by
  unfold dtF
  simp only [h, hp, hn, if_true]
  exact k
end
end Z
namespace Z
open PySem PySem.Spec L2
section
variable {X : Cx} {W : WX} {pu pv : Bool} {H H' : Hp} {Ex : List (Addr × HO)} {σ : L2.St} {g : Gs} {T T' ws ws' : Roots} {e a b d : Expr} {es : List Expr} {m n : M O} {ms : M (List O)} {pos p1 p2 q1 : Pos} {k np : Nat}
def rgB (i j : Int) : Bool := decide (-4611686018427387904 ≤ i) && decide (i < 4611686018427387904) && decide (-4611686018427387904 ≤ j) && decide (j < 4611686018427387904) && decide (j - i ≤ 16777216)
def lrng1M (m : M O) : M O := M.bd m fun o g => match o with
  | .d (.int i) => if rgB 0 i = true then .ok (.lst ((intsF 0 i.toNat).map O.d)) g else .bad
  | _ => .bad
def truO : O → Option Bool
  | .lst os => some (!os.isEmpty)
  | .d (.list ds) => some (!ds.isEmpty)
  | .d (.tuple ds) => some (!ds.isEmpty)
  | _ => none
def orLM (m n : M O) : M O := M.bd m fun o g => match truO o with
  | some true => .ok o g
  | some false => n g
  | none => .bad
theorem truV_of {K : PySem.W.Frag} {mg : Str → Option Value} {rs : Roots} {v : V} {o : O} {c : Bool} (r : Rel K mg H Ex ((v, o) :: rs) ws) (h : truO o = some c) : TruV K v H c := by
  obtain ⟨Hf, as, s, ow, _⟩ := r.headG
  have emp : ∀ {α β : Type} {xs : List α} {ys : List β}, xs.length = ys.length → xs.isEmpty = ys.isEmpty := fun {α β xs ys} e => by
    cases xs <;> cases ys <;> simp_all
  unfold truO at h
  split at h
  · cases h
    cases ow with
    | lst q t => exact .inl ⟨_, SqL.of q, by rw [emp (owLLen t)]⟩
  · cases h
    cases ow with
    | d hd => cases hd with | lst q t => exact .inl ⟨_, SqL.of (s _ _ q), by rw [emp (dpLen t)]⟩
  · cases h
    cases ow with
    | d hd =>
      obtain ⟨a, vs, rfl, q, t⟩ := dpTup hd
      exact .inr (.inl ⟨_, sameT s.same q, by rw [emp (dpLen t)]⟩)
  · cases h
theorem ev_orL {rest : List Expr} (h : Ev X W pu a m) (hb : Ev X W pv (.BoolOp .Or (b :: rest) pos) n) : Ev X W (pu && pv) (.BoolOp .Or (a :: b :: rest) pos) (orLM m n) := by
  obtain ⟨t, h1, h2⟩ := h.ex
  obtain ⟨u, g1, g2⟩ := hb.ex
  refine ⟨_, pe_orT h1 g1, fun σ H Q g T Ex ws a w => ?_⟩
  refine h2 σ H _ g T Ex ws a (w.bd.imp (fun o g' kq v H' s a' => ?_) fun _ _ k => k)
  split at kq
  · rename_i ht
    refine ⟨true, truV_of a'.top ht, kq v H' (fun z => s (Bool.and_eq_true_iff.mp z).1) (a'.views fun p m => ?_)⟩
    cases pu <;> cases pv <;> first | exact m | cases m
  · rename_i ht
    refine ⟨false, truV_of a'.top ht, g2 σ H' Q g' T Ex _ a'.drop (kq.imp (fun o g2 kq v H2 s2 a2 => kq v H2 (fun z => ?_) (by rw [vsVs] at a2; exact a2)) fun _ _ k => k)⟩
    have z' := Bool.and_eq_true_iff.mp z
    obtain ⟨e1, e2⟩ := s z'.1
    obtain ⟨e3, e4⟩ := s2 z'.2
    exact ⟨e3.trans e1, e2.trans e4⟩
  · exact kq.elim
end
section
variable {A : O → Gs → Prop} {B : Exn → Gs → Prop} {g : Gs} {m n : M O} {os : List O} {ds : List PyData}
def OrK (A : O → Gs → Prop) (B : Exn → Gs → Prop) (n : M O) (o : O) (g : Gs) : Prop := ∃ c, truO o = some c ∧ IfK c (A o g) (Wp (n g) A B)
instance s_orL : Stp (Wp (orLM m n g) A B) (Wp (m g) (OrK A B n) B) := ⟨fun h => by
  unfold orLM
  refine (wp_bd (m := m)).mpr (h.mono (fun o g1 q => ?_) fun _ _ z => z)
  obtain ⟨c, e, q⟩ := q
  simp only [e]
  cases c <;> exact q⟩
instance s_orKL : Stp (OrK A B n (.lst os) g) (IfK (!os.isEmpty) (A (.lst os) g) (Wp (n g) A B)) := ⟨fun h => ⟨_, rfl, h⟩⟩
instance s_orKT : Stp (OrK A B n (.d (.tuple ds)) g) (IfK (!ds.isEmpty) (A (.d (.tuple ds)) g) (Wp (n g) A B)) := ⟨fun h => ⟨_, rfl, h⟩⟩
def LrK (A : O → Gs → Prop) : O → Gs → Prop
  | .d (.int i), g => rgB 0 i = true ∧ A (.lst ((intsF 0 i.toNat).map O.d)) g
  | _, _ => False
instance s_lrng1 : Stp (Wp (lrng1M m g) A B) (Wp (m g) (LrK A) B) := ⟨fun h => by
  unfold lrng1M
  refine (wp_bd (m := m)).mpr (h.mono (fun o g1 q => ?_) fun _ _ z => z)
  unfold LrK at q
  split at q
  · simp only [q.1, if_true]
    exact q.2
  · exact q.elim⟩
instance s_lrK {i : Int} : Stp (LrK A (.d (.int i)) g) (Sd (-4611686018427387904 ≤ i ∧ i ≤ 16777216) (A (.lst ((intsF 0 i.toNat).map O.d)) g)) := ⟨fun h => ⟨by
  have := h.l
  simp [rgB]
  omega, h.r⟩⟩
end
end Z
namespace G
open PySem PySem.Spec L2 Z
def g_law_names : M Fl := (seqM (asgM (dM (.str "abcdefghijklmnopqrstuvwxyz")) (setM 2))
  (seqM (asgM (lstM (consM (dM (.str "yes")) (consM (dM (.str "no")) (consM (dM (.str "not")) (consM (dM (.str "and")) (consM (dM (.str "or")) (consM (dM (.str "done")) (consM (dM (.str "then")) (consM (dM (.str "if")) (consM (dM (.str "while")) (consM (dM (.str "either")) (consM (dM (.str "often")) (consM (dM (.str "asks")) (consM (dM (.str "deeds")) (M.ret []))))))))))))))) (setM 3))
  (seqM (asgM (opM addF (consM (pkM 3) (consM (lstM (consM (dM (.str "keeps")) (consM (dM (.str "makes")) (consM (dM (.str "rests")) (consM (dM (.str "idles")) (consM (dM (.str "still")) (consM (dM (.str "never")) (M.ret [])))))))) (M.ret [])))) (setM 3))
  (seqM (asgM (joinM (dM (.str "")) (compM [9] (M.bd (consM (callM G.f_law_take [] (slIn 0 (valA (dM (.int 4)) (M.ret [])))) (M.ret [])) rng1M) (setM 9) yesM (opM ixF (consM (fzM 2) (consM (callM G.f_law_take [] (slIn 0 (valA (dM (.int 26)) (M.ret [])))) (M.ret [])))))) (setM 4))
  (seqM (par3M 5 6 7 (consM (callM G.f_law_take [] (slIn 0 (valA (opM addF (consM (opM lenF (consM (pkM 4) (M.ret []))) (consM (dM (.int 1)) (M.ret [])))) (M.ret [])))) (consM (callM G.f_law_take [] (slIn 0 (valA (dM (.int 26)) (M.ret [])))) (consM (callM G.f_law_take [] (slIn 0 (valA (dM (.int 2)) (M.ret [])))) (M.ret [])))))
  (seqM (asgM (lstM (M.ret [])) (setM 8))
  (seqM (M.bd (M.bd (consM (fzM 1) (M.ret [])) rng1M) (forM (setM 9) (seqM (asgM (opM ixF (consM (pkM 2) (consM (opM modF (consM (opM addF (consM (pkM 6) (consM (opM mulF (consM (dM (.int 7)) (consM (pkM 9) (M.ret [])))) (M.ret [])))) (consM (dM (.int 26)) (M.ret [])))) (M.ret [])))) (setM 10))
  (seqM (asgM (opM addF (consM (opM addF (consM (opM addF (consM (opM (slF false true) (consM (pkM 4) (consM (pkM 5) (M.ret [])))) (consM (pkM 10) (M.ret [])))) (consM (opM (slF true false) (consM (pkM 4) (consM (pkM 5) (M.ret [])))) (M.ret [])))) (consM (opM timF (consM (dM (.str "z")) (consM (opM mulF (consM (pkM 7) (consM (opM modF (consM (pkM 9) (consM (dM (.int 2)) (M.ret [])))) (M.ret [])))) (M.ret [])))) (M.ret [])))) (setM 11))
  (seqM (whM (orZ (tstM (opM (inF false) (consM (pkM 11) (consM (pkM 3) (M.ret []))))) (tstM (opM (inF false) (consM (pkM 11) (consM (pkM 8) (M.ret [])))))) (seqM (asgM (opM ixF (consM (pkM 2) (consM (opM modF (consM (opM addF (consM (idxM (rdM 2) (opM ixF (consM (pkM 11) (consM (opM negF (consM (dM (.int 1)) (M.ret []))) (M.ret []))))) (consM (dM (.int 1)) (M.ret [])))) (consM (dM (.int 26)) (M.ret [])))) (M.ret [])))) (setM 10))
  (asgM (opM addF (consM (opM (slF false true) (consM (pkM 11) (consM (opM negF (consM (dM (.int 1)) (M.ret []))) (M.ret [])))) (consM (pkM 10) (M.ret [])))) (setM 11))) 1000000)
  (dropM (appLM 8 (fzM 11))))))))
  (retM (mvM 8)))))))))
def f_law_names : Fn := runF 2 2 12 g_law_names
def f_law_test : Nat → Fn
  | 0 => fun _ => .bad
  | n + 1 => runF 4 4 6 (seqM (asgM (callM G.f_law_take [] (slIn 0 (valA (dM (.int 8)) (M.ret [])))) (setM 4))
  (seqM (ifM (orZ (tstM (opM gtF (consM (pkM 4) (consM (dM (.int 2)) (M.ret []))))) (orZ (tstM (opM eqF (consM (pkM 3) (consM (dM (.int 0)) (M.ret []))))) (tstM (opM ltF (consM (opM ixF (consM (pkM 2) (consM (dM (.int 0)) (M.ret [])))) (consM (dM (.int 2)) (M.ret []))))))) (seqM (ifM (andZ (tstM (opM gtF (consM (opM lenF (consM (pkM 1) (M.ret []))) (consM (dM (.int 0)) (M.ret []))))) (tstM (opM neF (consM (pkM 4) (consM (dM (.int 7)) (M.ret [])))))) (retM (tupM (consM (dM (.str "ask")) (consM (opM ixF (consM (fzM 1) (consM (callM G.f_law_take [] (slIn 0 (valA (opM lenF (consM (pkM 1) (M.ret []))) (M.ret [])))) (M.ret [])))) (M.ret []))))) (M.ret .next))
  (retM (opM ixF (consM (lstM (consM (tupM (consM (dM (.str "yes")) (M.ret []))) (consM (tupM (consM (dM (.str "no")) (M.ret []))) (M.ret [])))) (consM (callM G.f_law_take [] (slIn 0 (valA (dM (.int 2)) (M.ret [])))) (M.ret [])))))) (M.ret .next))
  (seqM (asgM (opM subF (consM (opM subF (consM (opM ixF (consM (pkM 2) (consM (dM (.int 0)) (M.ret [])))) (consM (dM (.int 1)) (M.ret [])))) (consM (opM intF (consM (opM gtF (consM (pkM 4) (consM (dM (.int 0)) (M.ret [])))) (M.ret []))) (M.ret [])))) (ixSetM 2 (dM (.int 0))))
  (seqM (asgM (callM (G.f_law_test n) [] (slIn 0 (slIn 1 (slIn 2 (valA (opM subF (consM (pkM 3) (consM (dM (.int 1)) (M.ret [])))) (M.ret [])))))) (setM 5))
  (seqM (ifM (tstM (opM eqF (consM (pkM 4) (consM (dM (.int 0)) (M.ret []))))) (retM (tupM (consM (dM (.str "not")) (consM (fzM 5) (M.ret []))))) (M.ret .next))
  (retM (tupM (consM (opM ixF (consM (lstM (consM (dM (.str "and")) (consM (dM (.str "or")) (M.ret [])))) (consM (opM subF (consM (pkM 4) (consM (dM (.int 1)) (M.ret [])))) (M.ret [])))) (consM (fzM 5) (consM (callM (G.f_law_test n) [] (slIn 0 (slIn 1 (slIn 2 (valA (opM subF (consM (pkM 3) (consM (dM (.int 1)) (M.ret [])))) (M.ret [])))))) (M.ret [])))))))))))
def f_law_so : Nat → Fn
  | 0 => fun _ => .bad
  | n + 1 => runF 3 3 3 (seqM (ifM (tstM (opM eqF (consM (opM ixF (consM (pkM 1) (consM (dM (.int 0)) (M.ret [])))) (consM (dM (.str "ask")) (M.ret []))))) (retM (opM eqF (consM (opM andF (consM (opM shrF (consM (pkM 2) (consM (idxM (rdM 0) (opM ixF (consM (pkM 1) (consM (dM (.int 1)) (M.ret []))))) (M.ret [])))) (consM (dM (.int 1)) (M.ret [])))) (consM (dM (.int 1)) (M.ret []))))) (M.ret .next))
  (seqM (ifM (tstM (opM eqF (consM (opM ixF (consM (pkM 1) (consM (dM (.int 0)) (M.ret [])))) (consM (dM (.str "not")) (M.ret []))))) (retM (notV (callM (G.f_law_so n) [] (slIn 0 (valA (opM ixF (consM (pkM 1) (consM (dM (.int 1)) (M.ret [])))) (slIn 2 (M.ret []))))))) (M.ret .next))
  (seqM (ifM (tstM (opM eqF (consM (opM ixF (consM (pkM 1) (consM (dM (.int 0)) (M.ret [])))) (consM (dM (.str "and")) (M.ret []))))) (retM (andV (callM (G.f_law_so n) [] (slIn 0 (valA (opM ixF (consM (pkM 1) (consM (dM (.int 1)) (M.ret [])))) (slIn 2 (M.ret []))))) (callM (G.f_law_so n) [] (slIn 0 (valA (opM ixF (consM (pkM 1) (consM (dM (.int 2)) (M.ret [])))) (slIn 2 (M.ret []))))))) (M.ret .next))
  (seqM (ifM (tstM (opM eqF (consM (opM ixF (consM (pkM 1) (consM (dM (.int 0)) (M.ret [])))) (consM (dM (.str "or")) (M.ret []))))) (retM (orV (callM (G.f_law_so n) [] (slIn 0 (valA (opM ixF (consM (pkM 1) (consM (dM (.int 1)) (M.ret [])))) (slIn 2 (M.ret []))))) (callM (G.f_law_so n) [] (slIn 0 (valA (opM ixF (consM (pkM 1) (consM (dM (.int 2)) (M.ret [])))) (slIn 2 (M.ret []))))))) (M.ret .next))
  (retM (opM eqF (consM (opM ixF (consM (pkM 1) (consM (dM (.int 0)) (M.ret [])))) (consM (dM (.str "yes")) (M.ret [])))))))))
def g_law_rests : M Fl := (seqM (asgM (fzM 0) (tupG (consG 3 (consG 4 (consG 5 nilG)))))
  (seqM (asgM (lstM (M.ret [])) (setM 6))
  (seqM (M.bd (M.bd (fzM 5) itemsM) (forM (setM 7) (seqM (ifM (tstM (opM eqF (consM (opM ixF (consM (pkM 7) (consM (dM (.int 0)) (M.ret [])))) (consM (dM (.str "still")) (M.ret []))))) (dropM (appLM 6 (idxM (fzM 4) (opM ixF (consM (pkM 7) (consM (dM (.int 1)) (M.ret []))))))) (M.ret .next))
  (ifM (andZ (tstM (opM eqF (consM (opM ixF (consM (pkM 7) (consM (dM (.int 0)) (M.ret [])))) (consM (dM (.str "idles")) (M.ret []))))) (tstM (opM eqF (consM (opM eqF (consM (opM andF (consM (opM shrF (consM (pkM 1) (consM (idxM (rdM 3) (opM ixF (consM (pkM 7) (consM (dM (.int 1)) (M.ret []))))) (M.ret [])))) (consM (dM (.int 1)) (M.ret [])))) (consM (dM (.int 1)) (M.ret [])))) (consM (opM ixF (consM (pkM 7) (consM (dM (.int 2)) (M.ret [])))) (M.ret [])))))) (dropM (appLM 6 (idxM (fzM 4) (opM ixF (consM (pkM 7) (consM (dM (.int 3)) (M.ret []))))))) (M.ret .next)))))
  (seqM (asgM (opM addF (consM (opM timF (consM (lstM (consM (fzM 2) (M.ret []))) (consM (opM intF (consM (opM geF (consM (pkM 2) (consM (dM (.int 0)) (M.ret [])))) (M.ret []))) (M.ret [])))) (consM (pkM 6) (M.ret [])))) (setM 8))
  (seqM (asgM (dM (.int 0)) (setM 9))
  (seqM (whM (tstM (opM ltF (consM (pkM 9) (consM (opM lenF (consM (pkM 8) (M.ret []))) (M.ret []))))) (seqM (M.bd (M.bd (fzM 5) itemsM) (forM (setM 7) (ifM (andZ (tstM (opM eqF (consM (opM ixF (consM (pkM 7) (consM (dM (.int 0)) (M.ret [])))) (consM (dM (.str "rests")) (M.ret []))))) (andZ (tstM (opM eqF (consM (opM ixF (consM (pkM 7) (consM (dM (.int 1)) (M.ret [])))) (consM (opM ixF (consM (pkM 4) (consM (opM ixF (consM (pkM 8) (consM (pkM 9) (M.ret [])))) (M.ret [])))) (M.ret []))))) (tstM (opM (inF true) (consM (idxM (fzM 4) (opM ixF (consM (pkM 7) (consM (dM (.int 2)) (M.ret []))))) (consM (pkM 6) (M.ret []))))))) (seqM (dropM (appLM 6 (idxM (fzM 4) (opM ixF (consM (pkM 7) (consM (dM (.int 2)) (M.ret [])))))))
  (dropM (appLM 8 (opM ixF (consM (pkM 6) (consM (opM negF (consM (dM (.int 1)) (M.ret []))) (M.ret []))))))) (M.ret .next))))
  (asgM (opM addF (consM (pkM 9) (consM (dM (.int 1)) (M.ret [])))) (setM 9))) 1000000)
  (retM (opM srtF (consM (pkM 6) (M.ret []))))))))))
def f_law_rests : Fn := runF 3 3 10 g_law_rests
def g_law_fits : M Fl := (seqM (asgM (fzM 0) (tupG (consG 4 (consG 5 (consG 6 nilG)))))
  (seqM (M.bd (M.bd (fzM 6) itemsM) (forM (setM 7) (seqM (ifM (andZ (tstM (opM eqF (consM (opM ixF (consM (pkM 7) (consM (dM (.int 0)) (M.ret [])))) (consM (dM (.str "never")) (M.ret []))))) (tstM (callM (G.f_law_so 14) [] (slIn 4 (valA (opM ixF (consM (pkM 7) (consM (dM (.int 1)) (M.ret [])))) (slIn 1 (M.ret []))))))) (retM (dM (.bool false))) (M.ret .next))
  (ifM (andZ (tstM (opM eqF (consM (opM ixF (consM (pkM 7) (consM (dM (.int 0)) (M.ret [])))) (consM (dM (.str "makes")) (M.ret []))))) (tstM (opM (inF false) (consM (idxM (fzM 5) (opM ixF (consM (pkM 7) (consM (dM (.int 1)) (M.ret []))))) (consM (opM addF (consM (lstM (consM (rdM 2) (M.ret []))) (consM (pkM 3) (M.ret [])))) (M.ret [])))))) (ifM (tstM (opM neF (consM (opM eqF (consM (opM andF (consM (opM shrF (consM (pkM 1) (consM (idxM (rdM 4) (opM ixF (consM (pkM 7) (consM (dM (.int 2)) (M.ret []))))) (M.ret [])))) (consM (dM (.int 1)) (M.ret [])))) (consM (dM (.int 1)) (M.ret [])))) (consM (opM ixF (consM (pkM 7) (consM (dM (.int 3)) (M.ret [])))) (M.ret []))))) (retM (dM (.bool false))) (M.ret .next)) (M.ret .next)))))
  (retM (dM (.bool true)))))
def f_law_fits : Fn := runF 4 4 8 g_law_fits
def g_law_kept : M Fl := (seqM (asgM (dM (.int 0)) (setM 2))
  (seqM (M.bd (M.bd (opM ixF (consM (pkM 0) (consM (dM (.int 2)) (M.ret [])))) itemsM) (forM (setM 3) (ifM (andZ (tstM (opM eqF (consM (opM ixF (consM (pkM 3) (consM (dM (.int 0)) (M.ret [])))) (consM (dM (.str "keeps")) (M.ret []))))) (tstM (opM eqF (consM (opM ixF (consM (pkM 3) (consM (dM (.int 1)) (M.ret [])))) (consM (opM ixF (consM (opM ixF (consM (pkM 0) (consM (dM (.int 1)) (M.ret [])))) (consM (pkM 1) (M.ret [])))) (M.ret [])))))) (asgM (opM orF (consM (pkM 2) (consM (opM shlF (consM (dM (.int 1)) (consM (idxM (opM ixF (consM (pkM 0) (consM (dM (.int 0)) (M.ret [])))) (opM ixF (consM (pkM 3) (consM (dM (.int 2)) (M.ret []))))) (M.ret [])))) (M.ret [])))) (setM 2)) (M.ret .next))))
  (retM (mvM 2))))
def f_law_kept : Fn := runF 2 2 4 g_law_kept
def g_law_live : M Fl := (seqM (asgM newTM (setM 1))
  (seqM (M.bd (M.bd (consM (opM shlF (consM (dM (.int 1)) (consM (opM lenF (consM (opM ixF (consM (pkM 0) (consM (dM (.int 0)) (M.ret [])))) (M.ret []))) (M.ret [])))) (M.ret [])) rng1M) (forM (setM 2) (M.bd (M.bd (consM (opM negF (consM (dM (.int 1)) (M.ret []))) (consM (opM lenF (consM (opM ixF (consM (pkM 0) (consM (dM (.int 1)) (M.ret [])))) (M.ret []))) (M.ret []))) rng2M) (forM (setM 3) (seqM (asgM (callM G.f_law_rests [] (slIn 0 (slIn 2 (slIn 3 (M.ret []))))) (setM 4))
  (ifM (tstM (callM G.f_law_fits [] (slIn 0 (slIn 2 (slIn 3 (slIn 4 (M.ret []))))))) (asgM (frzM (compM [7] (M.bd (consM (opM lenF (consM (opM ixF (consM (pkM 0) (consM (dM (.int 1)) (M.ret [])))) (M.ret []))) (M.ret [])) rng1M) (setM 7) (tstM (opM (inF true) (consM (pkM 7) (consM (pkM 4) (M.ret []))))) (fzM 7))) (dputM 1 (tupM (consM (fzM 2) (consM (fzM 3) (M.ret [])))))) (M.ret .next)))))))
  (seqM (asgM (compM [7] (M.bd (consM (opM lenF (consM (opM ixF (consM (pkM 0) (consM (dM (.int 1)) (M.ret [])))) (M.ret []))) (M.ret [])) rng1M) (setM 7) yesM (callM G.f_law_kept [] (slIn 0 (slIn 7 (M.ret []))))) (setM 5))
  (seqM (asgM (lstM (consM (tupM (M.ret [])) (M.ret []))) (setM 6))
  (seqM (whM (tstM (opM neF (consM (pkM 6) (consM (lstM (M.ret [])) (M.ret []))))) (seqM (asgM (lstM (M.ret [])) (setM 6))
  (seqM (M.bd (itDM 1) (forM (tupG (consG 2 (consG 3 nilG))) (M.bd (M.bd (opM dgF (consM (pkM 1) (consM (tupM (consM (rdM 2) (consM (rdM 3) (M.ret [])))) (M.ret [])))) itemsM) (forM (setM 7) (ifM (tstM (opM eqF (consM (compM [11] (M.bd (consM (opM shlF (consM (dM (.int 1)) (consM (opM lenF (consM (opM ixF (consM (pkM 0) (consM (dM (.int 0)) (M.ret [])))) (M.ret []))) (M.ret [])))) (M.ret [])) rng1M) (setM 11) (andZ (tstM (opM (diF false) (consM (tupM (consM (fzM 11) (consM (fzM 7) (M.ret [])))) (consM (pkM 1) (M.ret []))))) (tstM (opM eqF (consM (opM andF (consM (opM xorF (consM (pkM 11) (consM (pkM 2) (M.ret [])))) (consM (opM ixF (consM (pkM 5) (consM (pkM 7) (M.ret [])))) (M.ret [])))) (consM (dM (.int 0)) (M.ret [])))))) (fzM 11)) (consM (lstM (M.ret [])) (M.ret []))))) (dropM (appLM 6 (tupM (consM (fzM 2) (consM (fzM 3) (M.ret [])))))) (M.ret .next))))))
  (asgM (opM dtF (consM (compM [12] (itDM 1) (setM 12) (tstM (opM (inDF true) (consM (pkM 12) (consM (pkM 6) (M.ret []))))) (tupM (consM (fzM 12) (consM (opM dgF (consM (pkM 1) (consM (pkM 12) (M.ret [])))) (M.ret []))))) (M.ret []))) (setM 1)))) 1000000)
  (seqM (asgM newTM (setM 8))
  (seqM (M.bd (itDM 1) (forM (tupG (consG 2 (consG 3 nilG))) (seqM (asgM (lstM (M.ret [])) (setM 9))
  (seqM (M.bd (M.bd (opM dgF (consM (pkM 1) (consM (tupM (consM (rdM 2) (consM (rdM 3) (M.ret [])))) (M.ret [])))) itemsM) (forM (setM 7) (seqM (asgM (compM [11] (M.bd (consM (opM shlF (consM (dM (.int 1)) (consM (opM lenF (consM (opM ixF (consM (pkM 0) (consM (dM (.int 0)) (M.ret [])))) (M.ret []))) (M.ret [])))) (M.ret [])) rng1M) (setM 11) (andZ (tstM (opM (diF false) (consM (tupM (consM (fzM 11) (consM (fzM 7) (M.ret [])))) (consM (pkM 1) (M.ret []))))) (tstM (opM eqF (consM (opM andF (consM (opM xorF (consM (pkM 11) (consM (pkM 2) (M.ret [])))) (consM (opM ixF (consM (pkM 5) (consM (pkM 7) (M.ret [])))) (M.ret [])))) (consM (dM (.int 0)) (M.ret [])))))) (fzM 11)) (setM 10))
  (asgM (opM addF (consM (fzM 9) (consM (compM [11] (M.bd (fzM 10) itemsM) (setM 11) yesM (tupM (consM (fzM 7) (consM (fzM 11) (M.ret []))))) (M.ret [])))) (setM 9)))))
  (asgM (fzM 9) (dputM 8 (tupM (consM (fzM 2) (consM (fzM 3) (M.ret []))))))))))
  (retM (mvM 8)))))))))
def f_law_live : Fn := runF 1 1 13 g_law_live
def g_law_fact : M Fl := (seqM (par2M 3 4 (consM (opM ixF (consM (fzM 2) (consM (callM G.f_law_take [] (slIn 0 (valA (opM lenF (consM (pkM 2) (M.ret []))) (M.ret [])))) (M.ret [])))) (consM (opM ixF (consM (fzM 2) (consM (callM G.f_law_take [] (slIn 0 (valA (opM lenF (consM (pkM 2) (M.ret []))) (M.ret [])))) (M.ret [])))) (M.ret []))))
  (seqM (asgM (callM G.f_law_take [] (slIn 0 (valA (dM (.int 12)) (M.ret [])))) (setM 5))
  (seqM (ifM (tstM (opM eqF (consM (opM lenF (consM (pkM 1) (M.ret []))) (consM (dM (.int 0)) (M.ret []))))) (retM (opM ixF (consM (lstM (consM (tupM (consM (dM (.str "rests")) (consM (fzM 3) (consM (fzM 4) (M.ret []))))) (consM (tupM (consM (dM (.str "rests")) (consM (fzM 3) (consM (fzM 3) (M.ret []))))) (consM (tupM (consM (dM (.str "still")) (consM (fzM 3) (M.ret [])))) (consM (tupM (consM (dM (.str "never")) (consM (tupM (consM (dM (.str "no")) (M.ret []))) (M.ret [])))) (M.ret [])))))) (consM (opM modF (consM (pkM 5) (consM (dM (.int 4)) (M.ret [])))) (M.ret []))))) (M.ret .next))
  (seqM (par2M 6 7 (consM (opM ixF (consM (fzM 1) (consM (callM G.f_law_take [] (slIn 0 (valA (opM lenF (consM (pkM 1) (M.ret []))) (M.ret [])))) (M.ret [])))) (consM (opM eqF (consM (callM G.f_law_take [] (slIn 0 (valA (dM (.int 2)) (M.ret [])))) (consM (dM (.int 1)) (M.ret [])))) (M.ret []))))
  (seqM (ifM (tstM (opM ltF (consM (pkM 5) (consM (dM (.int 3)) (M.ret []))))) (retM (tupM (consM (dM (.str "keeps")) (consM (fzM 3) (consM (fzM 6) (M.ret [])))))) (M.ret .next))
  (seqM (ifM (tstM (opM ltF (consM (pkM 5) (consM (dM (.int 5)) (M.ret []))))) (retM (tupM (consM (dM (.str "makes")) (consM (fzM 3) (consM (fzM 6) (consM (fzM 7) (M.ret []))))))) (M.ret .next))
  (seqM (ifM (tstM (opM ltF (consM (pkM 5) (consM (dM (.int 7)) (M.ret []))))) (retM (tupM (consM (dM (.str "rests")) (consM (fzM 3) (consM (opM ixF (consM (lstM (consM (fzM 3) (consM (fzM 4) (M.ret [])))) (consM (opM subF (consM (pkM 5) (consM (dM (.int 5)) (M.ret [])))) (M.ret [])))) (M.ret [])))))) (M.ret .next))
  (seqM (ifM (tstM (opM ltF (consM (pkM 5) (consM (dM (.int 9)) (M.ret []))))) (retM (tupM (consM (dM (.str "idles")) (consM (fzM 6) (consM (fzM 7) (consM (fzM 3) (M.ret []))))))) (M.ret .next))
  (seqM (ifM (tstM (opM eqF (consM (pkM 5) (consM (dM (.int 9)) (M.ret []))))) (retM (tupM (consM (dM (.str "still")) (consM (fzM 3) (M.ret []))))) (M.ret .next))
  (seqM (ifM (tstM (opM eqF (consM (pkM 5) (consM (dM (.int 10)) (M.ret []))))) (retM (tupM (consM (dM (.str "never")) (consM (callM (G.f_law_test 14) [] (slIn 0 (slIn 1 (valA (lstM (consM (dM (.int 6)) (M.ret []))) (valA (dM (.int 3)) (M.ret [])))))) (M.ret []))))) (M.ret .next))
  (seqM (asgM (tupM (consM (dM (.str "ask")) (consM (opM ixF (consM (fzM 1) (consM (callM G.f_law_take [] (slIn 0 (valA (opM lenF (consM (pkM 1) (M.ret []))) (M.ret [])))) (M.ret [])))) (M.ret [])))) (setM 8))
  (retM (tupM (consM (dM (.str "never")) (consM (tupM (consM (dM (.str "and")) (consM (tupM (consM (dM (.str "ask")) (consM (fzM 6) (M.ret [])))) (consM (opM ixF (consM (lstM (consM (fzM 8) (consM (tupM (consM (dM (.str "not")) (consM (fzM 8) (M.ret [])))) (M.ret [])))) (consM (opM intF (consM (pkM 7) (M.ret []))) (M.ret [])))) (M.ret []))))) (M.ret []))))))))))))))))
def f_law_fact : Fn := runF 3 3 9 g_law_fact
def g_law_book : M Fl := (seqM (asgM (opM tupF (consM (callM G.f_law_names [] (slIn 0 (valA (callM G.f_law_take [] (slIn 0 (valA (dM (.int 4)) (M.ret [])))) (M.ret [])))) (M.ret []))) (setM 1))
  (seqM (asgM (opM tupF (consM (callM G.f_law_names [] (slIn 0 (valA (opM addF (consM (dM (.int 1)) (consM (callM G.f_law_take [] (slIn 0 (valA (dM (.int 3)) (M.ret [])))) (M.ret [])))) (M.ret [])))) (M.ret []))) (setM 2))
  (seqM (ifM (andZ (tstM (opM eqF (consM (callM G.f_law_take [] (slIn 0 (valA (dM (.int 4)) (M.ret [])))) (consM (dM (.int 0)) (M.ret []))))) (tstM (opM gtF (consM (opM lenF (consM (pkM 1) (M.ret []))) (consM (dM (.int 0)) (M.ret [])))))) (asgM (opM addF (consM (opM (slF false true) (consM (pkM 2) (consM (opM negF (consM (dM (.int 1)) (M.ret []))) (M.ret [])))) (consM (opM tupF (consM (orLM (compM [5] (M.bd (opM (slF false true) (consM (pkM 1) (consM (dM (.int 1)) (M.ret [])))) itemsM) (setM 5) (tstM (opM (inF true) (consM (pkM 5) (consM (opM (slF false true) (consM (pkM 2) (consM (opM negF (consM (dM (.int 1)) (M.ret []))) (M.ret [])))) (M.ret []))))) (fzM 5)) (opM (slF true false) (consM (pkM 2) (consM (opM negF (consM (dM (.int 1)) (M.ret []))) (M.ret []))))) (M.ret []))) (M.ret [])))) (setM 2)) (M.ret .next))
  (seqM (asgM (opM ixF (consM (lstM (consM (callM G.f_law_take [] (slIn 0 (valA (dM (.int 3)) (M.ret [])))) (consM (callM G.f_law_take [] (slIn 0 (valA (dM (.int 7)) (M.ret [])))) (M.ret [])))) (consM (callM G.f_law_take [] (slIn 0 (valA (dM (.int 2)) (M.ret [])))) (M.ret [])))) (setM 3))
  (seqM (asgM (opM tupF (consM (compM [6] (M.bd (consM (fzM 3) (M.ret [])) rng1M) (setM 6) yesM (callM G.f_law_fact [] (slIn 0 (slIn 1 (slIn 2 (M.ret [])))))) (M.ret []))) (setM 4))
  (seqM (ifM (tstM (opM gtF (consM (callM G.f_law_take [] (slIn 0 (valA (dM (.int 8)) (M.ret [])))) (consM (dM (.int 0)) (M.ret []))))) (whM (andZ (tstM (opM neF (consM (pkM 4) (consM (tupM (M.ret [])) (M.ret []))))) (tstM (opM eqEF (consM (callM G.f_law_live [] (valA (tupM (consM (fzM 1) (consM (fzM 2) (consM (fzM 4) (M.ret []))))) (M.ret []))) (consM newTM (M.ret [])))))) (asgM (opM (slF false true) (consM (pkM 4) (consM (opM negF (consM (dM (.int 1)) (M.ret []))) (M.ret [])))) (setM 4)) 1000000) (M.ret .next))
  (retM (tupM (consM (fzM 1) (consM (fzM 2) (consM (fzM 4) (M.ret []))))))))))))
def f_law_book : Fn := runF 1 1 7 g_law_book
end G
namespace G
open PySem PySem.Spec L2 Z
local macro_rules | `(tactic| bv_omega) => `(tactic| repeat (first | with_reducible refine Stp.go ?_ | ((with_reducible refine Sd.mk ?_ ?_); focus (first | assumption | omega | exact Nat.zero_le _ | exact mulC_l | exact mulC_r | (simp only [List.length_cons, List.length_nil, List.length_map, List.length_append, Z.len_app]; omega) | (simp only [List.length_map, List.length_append, List.length_cons, List.length_nil, Z.intsF_len] at *; omega) | with_unfolding_all exact rfl | (refine powC_of ?_; omega) | assumption | exact List.mem_cons_self)) | with_reducible refine IfK.dt (by decide) ?_ | with_reducible refine IfK.df (by decide) ?_))
local macro_rules | `(tactic| array_get_dec) => `(tactic| repeat ((fail_if_success (with_reducible refine isJn ?_)); (first | with_reducible refine Stp.go ?_ | ((with_reducible refine Sd.mk ?_ ?_); focus (first | assumption | omega | exact Nat.zero_le _ | exact mulC_l | exact mulC_r | (simp only [List.length_cons, List.length_nil, List.length_map, List.length_append, Z.len_app]; omega) | (simp only [List.length_map, List.length_append, List.length_cons, List.length_nil, Z.intsF_len] at *; omega) | with_unfolding_all exact rfl | (refine powC_of ?_; omega) | assumption | exact List.mem_cons_self)) | with_reducible refine IfK.dt (by decide) ?_ | with_reducible refine IfK.df (by decide) ?_)))
local macro_rules | `(tactic| array_mem_dec) => `(tactic| (repeat' (first | (first | with_reducible refine Stp.go ?_ | ((with_reducible refine Sd.mk ?_ ?_); focus (first | assumption | omega | exact Nat.zero_le _ | exact mulC_l | exact mulC_r | (simp only [List.length_cons, List.length_nil, List.length_map, List.length_append, Z.len_app]; omega) | (simp only [List.length_map, List.length_append, List.length_cons, List.length_nil, Z.intsF_len] at *; omega) | with_unfolding_all exact rfl | (refine powC_of ?_; omega) | assumption | exact List.mem_cons_self)) | with_reducible refine IfK.dt (by decide) ?_ | with_reducible refine IfK.df (by decide) ?_) | refine IfK.dec (fun _ => ?_) (fun _ => ?_) | (refine CndK.mk ?_; first | rfl | (simp [*]; done) | (simp; omega) | (simp at *; done) | (simp at *; simp [*]; done) | (simp at *; omega)))))
local macro_rules | `(tactic| sizeOf_list_dec) => `(tactic| repeat ((fail_if_success (first | with_reducible refine isLc ?_ | with_reducible refine isFor ?_)); (first | with_reducible refine Stp.go ?_ | ((with_reducible refine Sd.mk ?_ ?_); focus (first | assumption | omega | exact Nat.zero_le _ | exact mulC_l | exact mulC_r | (simp only [List.length_cons, List.length_nil, List.length_map, List.length_append, Z.len_app]; omega) | (simp only [List.length_map, List.length_append, List.length_cons, List.length_nil, Z.intsF_len] at *; omega) | with_unfolding_all exact rfl | (refine powC_of ?_; omega) | assumption | exact List.mem_cons_self)) | with_reducible refine IfK.dt (by decide) ?_ | with_reducible refine IfK.df (by decide) ?_)))
inductive Fact where
  | keeps (p q : Str)
  | makes (p q : Str) (v : Bool)
  | rests (p r : Str)
  | idles (q : Str) (v : Bool) (p : Str)
  | still (p : Str)
  | never (t : Tst)
def Fact.d : Fact → PyData
  | .keeps p q => .tuple [.str "keeps", .str p, .str q]
  | .makes p q v => .tuple [.str "makes", .str p, .str q, .bool v]
  | .rests p r => .tuple [.str "rests", .str p, .str r]
  | .idles q v p => .tuple [.str "idles", .str q, .bool v, .str p]
  | .still p => .tuple [.str "still", .str p]
  | .never t => .tuple [.str "never", t.d]
structure Book where
  asks : List Str
  deeds : List Str
  facts : List Fact
def Book.d (b : Book) : PyData := .tuple [.tuple (b.asks.map PyData.str), .tuple (b.deeds.map PyData.str), .tuple (b.facts.map Fact.d)]
def Book.ds (b : Book) : List PyData := [.tuple (b.asks.map PyData.str), .tuple (b.deeds.map PyData.str), .tuple (b.facts.map Fact.d)]
instance lt_book {b : Book} : LtC (.d b.d) [.tuple (b.asks.map PyData.str), .tuple (b.deeds.map PyData.str), .tuple (b.facts.map Fact.d)] := ⟨rfl⟩
instance tg_book {b : Book} {f : List PyData → M Unit} {g : Gs} {AU : Unit → Gs → Prop} {B : Exn → Gs → Prop} : Stp (Wp (tupG f (.d b.d) g) AU B) (Wp (f [.tuple (b.asks.map PyData.str), .tuple (b.deeds.map PyData.str), .tuple (b.facts.map Fact.d)] g) AU B) := ⟨fun h => h⟩
def Fact.over (asks deeds : List Str) : Fact → Prop
  | .keeps p q => p ∈ deeds ∧ q ∈ asks
  | .makes p q _ => p ∈ deeds ∧ q ∈ asks
  | .rests p r => p ∈ deeds ∧ r ∈ deeds
  | .idles q _ p => q ∈ asks ∧ p ∈ deeds
  | .still p => p ∈ deeds
  | .never t => t.over asks ∧ t.size ≤ 7 ∧ t.deep ≤ 7
/-- a book as the laws draw them -/
structure Book.Ok (b : Book) : Prop where
  asksN : b.asks.Nodup
  deedsN : b.deeds.Nodup
  asksM : ∀ q ∈ b.asks, NmOk q
  deedsM : ∀ q ∈ b.deeds, NmOk q
  asksL : b.asks.length ≤ 3
  deedsP : 1 ≤ b.deeds.length
  deedsL : b.deeds.length ≤ 3
  factsL : b.facts.length ≤ 6
  factsO : ∀ f ∈ b.facts, f.over b.asks b.deeds
/-- whether question k is answered yes -/
def bitI (n : Int) (k : Nat) : Bool := decide (n / 2 ^ k % 2 = 1)
def Tst.so (asks : List Str) (n : Int) : Tst → Bool
  | .yes => true
  | .no => false
  | .ask q => bitI n (asks.idxOf q)
  | .not t => !t.so asks n
  | .and a b => a.so asks n && b.so asks n
  | .or a b => a.so asks n || b.so asks n
theorem bit_eq {n : Int} {k : Nat} : decide (Builtin.bitAnd (n / 2 ^ ((k : Int)).toNat) 1 = 1) = bitI n k := by
  rw [PyProof.Rows.bitAnd_m1, Int.toNat_natCast]
  rfl
theorem fw_so {qs : List Str} (hq : qs.length ≤ 1000) {v : Int} : ∀ {n : Nat} {t : Tst} {A : O → List O → Prop} {B : Exn → Prop}, t.deep ≤ n → t.over qs →
    A (.d (.bool (t.so qs v))) [.d (.tuple (qs.map PyData.str)), .d t.d, .d (.int v)] → FW (f_law_so n [.d (.tuple (qs.map PyData.str)), .d t.d, .d (.int v)]) A B
  | 0, t, _, _, h, _, _ => by cases t <;> simp [Tst.deep] at h
  | n + 1, t, A, B, h, ho, k => by
    have ih := @fw_so qs hq v n
    refine fwRun ?_
    cases t with
    | yes => simp only [Tst.d] at k ⊢; bv_omega; exact k
    | no => simp only [Tst.d] at k ⊢; bv_omega; exact k
    | ask q =>
      simp only [Tst.d] at k ⊢
      bv_omega
      refine Sd.mk (fun e => by rw [e] at ho; cases ho) ?_
      bv_omega
      rw [bit_eq]
      exact k
    | not u =>
      simp only [Tst.d, Tst.so] at k ⊢
      bv_omega
      refine ih (by simp only [Tst.deep] at h; omega) ho ?_
      bv_omega
      exact k
    | and u w =>
      simp only [Tst.d, Tst.so] at k ⊢
      bv_omega
      refine ih (by simp only [Tst.deep] at h; omega) ho.1 ?_
      bv_omega
      refine IfK.mk (fun e => ?_) (fun e => ?_)
      · bv_omega
        refine ih (by simp only [Tst.deep] at h; omega) ho.2 ?_
        bv_omega
        rw [e] at k
        exact k
      · bv_omega
        rw [e] at k
        exact k
    | or u w =>
      simp only [Tst.d, Tst.so] at k ⊢
      bv_omega
      refine ih (by simp only [Tst.deep] at h; omega) ho.1 ?_
      bv_omega
      refine IfK.mk (fun e => ?_) (fun e => ?_)
      · bv_omega
        rw [e] at k
        exact k
      · bv_omega
        refine ih (by simp only [Tst.deep] at h; omega) ho.2 ?_
        bv_omega
        rw [e] at k
        exact k
end G
namespace G
open PySem PySem.Spec L2 Z
local macro_rules | `(tactic| bv_omega) => `(tactic| repeat (first | with_reducible refine Stp.go ?_ | ((with_reducible refine Sd.mk ?_ ?_); focus (first | assumption | omega | exact Nat.zero_le _ | exact mulC_l | exact mulC_r | (simp only [List.length_cons, List.length_nil, List.length_map, List.length_append, Z.len_app]; omega) | (simp only [List.length_map, List.length_append, List.length_cons, List.length_nil, Z.intsF_len] at *; omega) | with_unfolding_all exact rfl | (refine powC_of ?_; omega) | assumption | exact List.mem_cons_self)) | with_reducible refine IfK.dt (by decide) ?_ | with_reducible refine IfK.df (by decide) ?_))
local macro_rules | `(tactic| array_get_dec) => `(tactic| repeat ((fail_if_success (with_reducible refine isJn ?_)); (first | with_reducible refine Stp.go ?_ | ((with_reducible refine Sd.mk ?_ ?_); focus (first | assumption | omega | exact Nat.zero_le _ | exact mulC_l | exact mulC_r | (simp only [List.length_cons, List.length_nil, List.length_map, List.length_append, Z.len_app]; omega) | (simp only [List.length_map, List.length_append, List.length_cons, List.length_nil, Z.intsF_len] at *; omega) | with_unfolding_all exact rfl | (refine powC_of ?_; omega) | assumption | exact List.mem_cons_self)) | with_reducible refine IfK.dt (by decide) ?_ | with_reducible refine IfK.df (by decide) ?_)))
local macro_rules | `(tactic| array_mem_dec) => `(tactic| (repeat' (first | (first | with_reducible refine Stp.go ?_ | ((with_reducible refine Sd.mk ?_ ?_); focus (first | assumption | omega | exact Nat.zero_le _ | exact mulC_l | exact mulC_r | (simp only [List.length_cons, List.length_nil, List.length_map, List.length_append, Z.len_app]; omega) | (simp only [List.length_map, List.length_append, List.length_cons, List.length_nil, Z.intsF_len] at *; omega) | with_unfolding_all exact rfl | (refine powC_of ?_; omega) | assumption | exact List.mem_cons_self)) | with_reducible refine IfK.dt (by decide) ?_ | with_reducible refine IfK.df (by decide) ?_) | refine IfK.dec (fun _ => ?_) (fun _ => ?_) | (refine CndK.mk ?_; first | rfl | (simp [*]; done) | (simp; omega) | (simp at *; done) | (simp at *; simp [*]; done) | (simp at *; omega)))))
local macro_rules | `(tactic| sizeOf_list_dec) => `(tactic| repeat ((fail_if_success (first | with_reducible refine isLc ?_ | with_reducible refine isFor ?_)); (first | with_reducible refine Stp.go ?_ | ((with_reducible refine Sd.mk ?_ ?_); focus (first | assumption | omega | exact Nat.zero_le _ | exact mulC_l | exact mulC_r | (simp only [List.length_cons, List.length_nil, List.length_map, List.length_append, Z.len_app]; omega) | (simp only [List.length_map, List.length_append, List.length_cons, List.length_nil, Z.intsF_len] at *; omega) | with_unfolding_all exact rfl | (refine powC_of ?_; omega) | assumption | exact List.mem_cons_self)) | with_reducible refine IfK.dt (by decide) ?_ | with_reducible refine IfK.df (by decide) ?_)))
theorem nodup_sub {α : Type} [DecidableEq α] : ∀ {l m : List α}, l.Nodup → (∀ x ∈ l, x ∈ m) → l.length ≤ m.length
  | [], m, _, _ => by simp
  | a :: l, m, h, s => by
    have h' := List.nodup_cons.mp h
    have ha : a ∈ m := s a (by simp)
    have ih := nodup_sub (l := l) (m := m.erase a) h'.2 fun x hx => by
      have ne : x ≠ a := fun e => h'.1 (e ▸ hx)
      exact (List.mem_erase_of_ne ne).mpr (s x (by simp [hx]))
    rw [List.length_erase_of_mem ha] at ih
    have : 0 < m.length := List.length_pos_of_mem ha
    simp only [List.length_cons]
    omega
theorem fw_test {qs : List Str} (hq : qs.length ≤ 1000) : ∀ {n : Nat} {l down : Int} {c s : Int} {A : O → List O → Prop} {B : Exn → Prop}, down < n → 0 ≤ down → 0 ≤ l → l ≤ 1000 →
    (∀ (t : Tst) (c s m : Int), 0 ≤ m → (t.size : Int) + m ≤ l + 1 → (t.deep : Int) ≤ down + 1 → t.over qs → A (.d t.d) [.lst [.d (.int c), .d (.int s)], .d (.tuple (qs.map PyData.str)), .lst [.d (.int m)], .d (.int down)]) →
    FW (f_law_test n [.lst [.d (.int c), .d (.int s)], .d (.tuple (qs.map PyData.str)), .lst [.d (.int l)], .d (.int down)]) A B
  | 0, _, _, _, _, _, _, h, _, _, _, _ => by omega
  | n + 1, l, down, c, s, A, B, h, h0, hl, hl2, k => by
    have ih := @fw_test qs hq n
    refine fwRun ?_
    bv_omega
    intro f c s f0 f1; array_get_dec
    refine Stp.go (wp_ifP (2 < f ∨ down = 0 ∨ l < 2) ?_ (fun _ => ?_) (fun hc => ?_))
    · array_mem_dec
    · array_get_dec
      refine Stp.go (wp_ifP (0 < qs.length ∧ f ≠ 7) ?_ (fun hh => ?_) (fun _ => ?_))
      · array_mem_dec
      · bv_omega
        intro x c s h2 h3; bv_omega
        refine ix_any (e := PyData.str) (l := qs) rfl h2 (by simpa using h3) fun q hqs => ?_
        bv_omega
        exact k (.ask q) c s l hl (by simp [Tst.size]; omega) (by simp [Tst.deep]; omega) hqs
      · bv_omega
        intro x c s h2 h3; bv_omega
        refine optW_ix rfl h2 h3 fun y hy => ?_
        simp only [List.mem_cons, List.not_mem_nil, or_false] at hy
        rcases hy with rfl | rfl
        · bv_omega
          exact k .yes c s l hl (by simp [Tst.size]; omega) (by simp [Tst.deep]; omega) trivial
        · bv_omega
          exact k .no c s l hl (by simp [Tst.size]; omega) (by simp [Tst.deep]; omega) trivial
    · bv_omega
      have hif : (if decide (0 < f) = true then (1 : Int) else 0) = if 0 < f then 1 else 0 := by simp
      refine ih (by omega) (by omega) (by split <;> omega) (by split <;> omega) fun t c s m b0 b1 b2 b3 => ?_
      array_get_dec
      refine Stp.go (wp_ifP (f = 0) ?_ (fun e => ?_) (fun hc2 => ?_))
      · array_mem_dec
      · bv_omega
        subst e
        simp at b1
        exact k (.not t) c s m b0 (by simp [Tst.size]; omega) (by simp [Tst.deep]; omega) b3
      · bv_omega
        refine optW_ix rfl (by omega) (by simp; omega) fun y hy => ?_
        have hf1 : decide (0 < f) = true := by simp; omega
        rw [if_pos hf1] at b1
        bv_omega
        refine ih (by omega) (by omega) b0 (by omega) fun u c s m2 b4 b5 b6 b7 => ?_
        simp only [List.mem_cons, List.not_mem_nil, or_false] at hy
        rcases hy with rfl | rfl
        · bv_omega
          exact k (.and t u) c s m2 b4 (by simp [Tst.size]; omega) (by simp [Tst.deep]; omega) ⟨b3, b7⟩
        · bv_omega
          exact k (.or t u) c s m2 b4 (by simp [Tst.size]; omega) (by simp [Tst.deep]; omega) ⟨b3, b7⟩
theorem fw_fact {qs ps : List Str} (hq : qs.length ≤ 1000) (hp0 : 1 ≤ ps.length) (hp : ps.length ≤ 1000) {c s : Int} {A : O → List O → Prop} {B : Exn → Prop}
    (k : ∀ (f : Fact) (c s : Int), f.over qs ps → A (.d f.d) [.lst [.d (.int c), .d (.int s)], .d (.tuple (qs.map PyData.str)), .d (.tuple (ps.map PyData.str))]) :
    FW (f_law_fact [.lst [.d (.int c), .d (.int s)], .d (.tuple (qs.map PyData.str)), .d (.tuple (ps.map PyData.str))]) A B := by
  refine fwRun ?_
  unfold g_law_fact
  bv_omega
  intro x c s h2 h3; bv_omega
  refine ix_any (e := PyData.str) (l := ps) rfl h2 (by simpa using h3) fun p hps => ?_
  bv_omega
  intro x c s h2 h3; bv_omega
  refine ix_any (e := PyData.str) (l := ps) rfl h2 (by simpa using h3) fun r hrs => ?_
  bv_omega
  intro f c s f0 f1; array_get_dec
  refine Stp.go (wp_ifP (qs.length = 0) ?_ (fun e => ?_) (fun hn => ?_))
  · array_mem_dec
  · bv_omega
    refine optW_ix rfl (Int.emod_nonneg _ (by omega)) (by have := Int.emod_lt_of_pos f (b := 4) (by omega); simpa using this) fun y hy => ?_
    simp only [List.mem_cons, List.not_mem_nil, or_false] at hy
    rcases hy with rfl | rfl | rfl | rfl
    · bv_omega
      exact k (.rests p r) _ _ ⟨hps, hrs⟩
    · bv_omega
      exact k (.rests p p) _ _ ⟨hps, hps⟩
    · bv_omega
      exact k (.still p) _ _ hps
    · bv_omega
      exact k (.never .no) _ _ ⟨trivial, by decide, by decide⟩
  · bv_omega
    intro x c s h2 h3; bv_omega
    refine ix_any (e := PyData.str) (l := qs) rfl h2 (by simpa using h3) fun q hqs => ?_
    bv_omega
    intro vi c s h4 h5; bv_omega
    generalize decide (vi = 1) = v
    refine IfK.dec (fun _ => ?_) (fun _ => ?_)
    · bv_omega
      exact k (.keeps p q) _ _ ⟨hps, hqs⟩
    bv_omega
    refine IfK.dec (fun _ => ?_) (fun _ => ?_)
    · bv_omega
      exact k (.makes p q v) _ _ ⟨hps, hqs⟩
    bv_omega
    refine IfK.dec (fun _ => ?_) (fun _ => ?_)
    · bv_omega
      refine optW_ix rfl (by omega) (by simp; omega) fun y hy => ?_
      simp only [List.mem_cons, List.not_mem_nil, or_false] at hy
      rcases hy with rfl | rfl
      · bv_omega
        exact k (.rests p p) _ _ ⟨hps, hps⟩
      · bv_omega
        exact k (.rests p r) _ _ ⟨hps, hrs⟩
    bv_omega
    refine IfK.dec (fun _ => ?_) (fun _ => ?_)
    · bv_omega
      exact k (.idles q v p) _ _ ⟨hqs, hps⟩
    bv_omega
    refine IfK.dec (fun _ => ?_) (fun _ => ?_)
    · bv_omega
      exact k (.still p) _ _ hps
    bv_omega
    refine IfK.dec (fun _ => ?_) (fun _ => ?_)
    · bv_omega
      refine fw_test hq (by omega) (by omega) (by omega) (by omega) fun t c s m b0 b1 b2 b3 => ?_
      bv_omega
      exact k (.never t) _ _ ⟨b3, by omega, by omega⟩
    bv_omega
    intro x c s h2 h3; bv_omega
    refine ix_any (e := PyData.str) (l := qs) rfl h2 (by simpa using h3) fun q2 hqs2 => ?_
    bv_omega
    refine optW_ix rfl (by split <;> omega) (by simp; split <;> omega) fun y hy => ?_
    simp only [List.mem_cons, List.not_mem_nil, or_false] at hy
    rcases hy with rfl | rfl
    · bv_omega
      exact k (.never (.and (.ask q) (.ask q2))) _ _ ⟨⟨hqs, hqs2⟩, by simp [Tst.size], by simp [Tst.deep]⟩
    · bv_omega
      exact k (.never (.and (.ask q) (.not (.ask q2)))) _ _ ⟨⟨hqs, hqs2⟩, by simp [Tst.size], by simp [Tst.deep]⟩
end G
namespace G
open PySem PySem.Spec L2 Z
local macro_rules | `(tactic| bv_omega) => `(tactic| repeat (first | with_reducible refine Stp.go ?_ | ((with_reducible refine Sd.mk ?_ ?_); focus (first | assumption | omega | exact Nat.zero_le _ | exact mulC_l | exact mulC_r | (simp only [List.length_cons, List.length_nil, List.length_map, List.length_append, Z.len_app]; omega) | (simp only [List.length_map, List.length_append, List.length_cons, List.length_nil, Z.intsF_len] at *; omega) | with_unfolding_all exact rfl | (refine powC_of ?_; omega) | assumption | exact List.mem_cons_self)) | with_reducible refine IfK.dt (by decide) ?_ | with_reducible refine IfK.df (by decide) ?_))
local macro_rules | `(tactic| array_get_dec) => `(tactic| repeat ((fail_if_success (with_reducible refine isJn ?_)); (first | with_reducible refine Stp.go ?_ | ((with_reducible refine Sd.mk ?_ ?_); focus (first | assumption | omega | exact Nat.zero_le _ | exact mulC_l | exact mulC_r | (simp only [List.length_cons, List.length_nil, List.length_map, List.length_append, Z.len_app]; omega) | (simp only [List.length_map, List.length_append, List.length_cons, List.length_nil, Z.intsF_len] at *; omega) | with_unfolding_all exact rfl | (refine powC_of ?_; omega) | assumption | exact List.mem_cons_self)) | with_reducible refine IfK.dt (by decide) ?_ | with_reducible refine IfK.df (by decide) ?_)))
local macro_rules | `(tactic| array_mem_dec) => `(tactic| (repeat' (first | (first | with_reducible refine Stp.go ?_ | ((with_reducible refine Sd.mk ?_ ?_); focus (first | assumption | omega | exact Nat.zero_le _ | exact mulC_l | exact mulC_r | (simp only [List.length_cons, List.length_nil, List.length_map, List.length_append, Z.len_app]; omega) | (simp only [List.length_map, List.length_append, List.length_cons, List.length_nil, Z.intsF_len] at *; omega) | with_unfolding_all exact rfl | (refine powC_of ?_; omega) | assumption | exact List.mem_cons_self)) | with_reducible refine IfK.dt (by decide) ?_ | with_reducible refine IfK.df (by decide) ?_) | refine IfK.dec (fun _ => ?_) (fun _ => ?_) | (refine CndK.mk ?_; first | rfl | (simp [*]; done) | (simp; omega) | (simp at *; done) | (simp at *; simp [*]; done) | (simp at *; omega)))))
local macro_rules | `(tactic| sizeOf_list_dec) => `(tactic| repeat ((fail_if_success (first | with_reducible refine isLc ?_ | with_reducible refine isFor ?_)); (first | with_reducible refine Stp.go ?_ | ((with_reducible refine Sd.mk ?_ ?_); focus (first | assumption | omega | exact Nat.zero_le _ | exact mulC_l | exact mulC_r | (simp only [List.length_cons, List.length_nil, List.length_map, List.length_append, Z.len_app]; omega) | (simp only [List.length_map, List.length_append, List.length_cons, List.length_nil, Z.intsF_len] at *; omega) | with_unfolding_all exact rfl | (refine powC_of ?_; omega) | assumption | exact List.mem_cons_self)) | with_reducible refine IfK.dt (by decide) ?_ | with_reducible refine IfK.df (by decide) ?_)))
def sgn (i : Nat) : Str := ⟨#[97 + i]⟩
theorem lets_at : ∀ i : Nat, i < 26 → (L lets)[i]? = some (97 + i) := by decide +kernel
theorem lets_mem {c : Nat} (h : c ∈ L lets) : ∃ i, i < 26 ∧ c = 97 + i := by
  have e : L lets = (List.range 26).map (97 + ·) := by decide +kernel
  rw [e] at h
  obtain ⟨i, hi, rfl⟩ := List.mem_map.mp h
  exact ⟨i, List.mem_range.mp hi, rfl⟩
theorem lets_ix {i : Int} (h0 : 0 ≤ i) (h1 : i < 26) : ixF [.d (.str "abcdefghijklmnopqrstuvwxyz"), .d (.int i)] = some (.d (.str (sgn i.toNat))) := by
  obtain ⟨n, rfl⟩ := Int.eq_ofNat_of_zero_le h0
  have hn : n < 26 := by omega
  rw [ixF_s, if_pos (lenOk_of (by decide))]
  have e : atI (Str.cps "abcdefghijklmnopqrstuvwxyz").toList (n : Int) = some (97 + n) := by
    have h2 := lets_at n hn
    unfold atI ixN
    have hl : (L lets).length = 26 := by decide
    have hl' : (Str.cps "abcdefghijklmnopqrstuvwxyz").toList.length = 26 := hl
    rw [hl', if_pos (by omega), if_pos (by omega)]
    simpa [L, lets] using h2
  rw [e]
  rfl
theorem lets_idx : ∀ i : Nat, i < 26 → Builtin.Str.occurrences "abcdefghijklmnopqrstuvwxyz" (sgn i) 0 (Str.length "abcdefghijklmnopqrstuvwxyz") 1 = [i] := by decide +kernel
theorem idx_sgn {i : Nat} (h : i < 26) : idxV (.s "abcdefghijklmnopqrstuvwxyz") (.d (.str (sgn i))) = some (.d (.int i)) := by
  show (match Builtin.Str.occurrences "abcdefghijklmnopqrstuvwxyz" (sgn i) 0 (Str.length "abcdefghijklmnopqrstuvwxyz") 1 with | i :: _ => some (O.d (.int i)) | [] => none) = _
  rw [lets_idx i h]
/-- a text that ends in a small letter -/
def Ends (z : Str) (P : List Nat) (j : Nat) : Prop := L z = P ++ [97 + j] ∧ j < 26
theorem ends_last {z : Str} {P : List Nat} {j : Nat} (h : Ends z P j) (hl : z.length ≤ 1000) : ixF [.d (.str z), .d (.int (-1))] = some (.d (.str (sgn j))) := by
  rw [ixF_s, if_pos (lenOk_of (by omega))]
  have e : atI z.cps.toList (-1) = some (97 + j) := by
    show atI (L z) (-1) = _
    rw [h.1]
    unfold atI ixN
    rw [if_neg (by omega), if_pos (by simp; omega)]
    have : ((-1 : Int) + ((P ++ [97 + j]).length : Int)).toNat = P.length := by simp; omega
    rw [this]
    simp
  rw [e]
  rfl
theorem ends_of {z : Str} (h : Low z) (hp : 0 < z.length) : ∃ P j, Ends z P j := by
  have hne : L z ≠ [] := fun e => by
    have := L_len z
    rw [e] at this
    simp at this
    omega
  obtain ⟨j, hj, e⟩ := lets_mem (h _ (List.getLast_mem hne))
  refine ⟨(L z).dropLast, j, ?_, hj⟩
  rw [← e, List.dropLast_concat_getLast]
theorem ends_next {z : Str} {P : List Nat} {j i : Nat} (h : Ends z P j) (hi : i < 26) : Ends (cutS z none (some (-1)) ++ sgn i) P i := by
  refine ⟨?_, hi⟩
  rw [L_app, L_cut, cutD_neg1, h.1, List.dropLast_concat]
  rfl
theorem ends_free {P : List Nat} {F : List Str} (h : F.length < 26) : ∃ j, j < 26 ∧ ∀ z, Ends z P j → z ∉ F := by
  refine Classical.byContradiction fun hc => ?_
  have all : ∀ j, j < 26 → (⟨(P ++ [97 + j]).toArray⟩ : Str) ∈ F := fun j hj => Classical.byContradiction fun hn => hc ⟨j, hj, fun z hz hm => hn (by
    have : z = ⟨(P ++ [97 + j]).toArray⟩ := L_ext (by rw [hz.1]; simp [L])
    rw [← this]
    exact hm)⟩
  have nd : ((List.range 26).map fun j => (⟨(P ++ [97 + j]).toArray⟩ : Str)).Nodup := by
    rw [List.nodup_iff_pairwise_ne, List.pairwise_map]
    refine List.Pairwise.imp ?_ (List.nodup_iff_pairwise_ne.mp List.nodup_range)
    intro a b hab e
    apply hab
    have := congrArg L e
    simp [L] at this
    omega
  have := nodup_sub nd fun x hx => by
    obtain ⟨j, hj, rfl⟩ := List.mem_map.mp hx
    exact all j (List.mem_range.mp hj)
  simp at this
  omega
theorem wp_orP {c d : M Bool} {A : Bool → Gs → Prop} {B : Exn → Gs → Prop} {g : Gs} (v : Bool) (h : Wp (orZ c d g) (CndK v g) fun _ _ => False) (k : A v g) : Wp (orZ c d g) A B :=
  h.mono (fun b g1 e => by obtain ⟨rfl, rfl⟩ := e; exact k) fun _ _ z => z.elim
theorem fw_names {c s many : Int} (h0 : 0 ≤ many) (h4 : many ≤ 4) {A : O → List O → Prop} {B : Exn → Prop}
    (k : ∀ (l : List Str) (c s : Int), (l.length : Int) = many → l.Nodup → (∀ z ∈ l, NmOk z) → A (.lst ((l.map PyData.str).map O.d)) [.lst [.d (.int c), .d (.int s)], .d (.int many)]) :
    FW (f_law_names [.lst [.d (.int c), .d (.int s)], .d (.int many)]) A B := by
  refine fwRun ?_
  unfold g_law_names
  bv_omega
  intro m4 c s m0 m1; bv_omega
  refine wp_lcB PyData.str (fun z => z.length = 1 ∧ Low z) (fun g => ∃ c s : Int, g = [some (.lst [.d (.int c), .d (.int s)]), some (.d (.int many)), some (.d (.str "abcdefghijklmnopqrstuvwxyz")), some (.lst ((takenS.map PyData.str).map O.d)), none, none, none, none, none, none, none, none]) ?_ ?_ ⟨_, _, rfl⟩
  · rintro l g hl hp ⟨c, s, rfl⟩
    rw [intsF_len] at hl
    have z0 : (Str.ofString "").length = 0 := by decide
    have hsum : (l.map (·.length)).sum = l.length := by
      clear hl
      induction l with
      | nil => rfl
      | cons a r ih => simp [(hp a (by simp)).1, ih fun z hz => hp z (by simp [hz])]; omega
    have hj : (Txt.join "" l).length = l.length := PySem.W.KT.join_ones l fun a m => (hp a m).1
    have hlow : Low (Txt.join "" l) := fun c m => by
      rw [L_join0 rfl] at m
      obtain ⟨b, hb, m⟩ := List.mem_flatten.mp m
      obtain ⟨z, hz, rfl⟩ := List.mem_map.mp hb
      exact (hp z hz).2 c m
    bv_omega
    refine Sd.mk (by rw [hsum, z0]; omega) ?_
    generalize Txt.join "" l = stem at hj hlow
    have hst : stem.length ≤ 3 := by omega
    bv_omega
    intro at1 c s a0 a1; bv_omega
    intro turn c s t0 t1; bv_omega
    intro lg c s g0 g1; bv_omega
    refine wp_forN (fun i g => ∃ (fs : List Str) (o9 o10 o11 : Option O), (fs.length : Int) = i ∧ fs.Nodup ∧ (∀ z ∈ fs, NmOk z) ∧
      g = [some (.lst [.d (.int c), .d (.int s)]), some (.d (.int many)), some (.d (.str "abcdefghijklmnopqrstuvwxyz")), some (.lst ((takenS.map PyData.str).map O.d)), some (.d (.str stem)), some (.d (.int at1)), some (.d (.int turn)), some (.d (.int lg)), some (.lst ((fs.map PyData.str).map O.d)), o9, o10, o11]) ?_ ?_ ⟨[], none, none, none, rfl, .nil, by simp, rfl⟩
    · rintro g ⟨fs, o9, o10, o11, hl, hn, hk, rfl⟩
      bv_omega
      exact k fs _ _ (by omega) hn hk
    · rintro i g i0 i1 ⟨fs, o9, o10, o11, hl, hn, hk, rfl⟩
      have l1 := len_cut stem none (some at1)
      have l2 := len_cut stem (some at1) none
      bv_omega
      rw [lets_ix (Int.emod_nonneg _ (by omega)) (Int.emod_lt_of_pos _ (by omega))]
      have lS : (sgn ((turn + 7 * i) % 26).toNat).length = 1 := rfl
      have loS : Low (sgn ((turn + 7 * i) % 26).toNat) := fun c m => by
        have hlt := Int.emod_lt_of_pos (turn + 7 * i) (b := 26) (by omega)
        have hge := Int.emod_nonneg (turn + 7 * i) (b := 26) (by omega)
        rw [show L (sgn ((turn + 7 * i) % 26).toNat) = [97 + ((turn + 7 * i) % 26).toNat] from rfl, List.mem_singleton] at m
        subst m
        exact List.mem_of_getElem? (lets_at _ (by omega))
      generalize sgn ((turn + 7 * i) % 26).toNat = sg at lS loS
      bv_omega
      have htz : ∀ x : Int, (timF [.d (.str "z"), .d (.int (lg * (x % 2)))]) = some (.d (.str (if lg * (x % 2) = 1 then "z" else Str.empty))) := fun x => by
        have h1 : 0 ≤ x % 2 := Int.emod_nonneg _ (by omega)
        have h2 : x % 2 < 2 := Int.emod_lt_of_pos _ (by omega)
        have h3 : lg * (x % 2) = 0 ∨ lg * (x % 2) = 1 := by
          have : lg = 0 ∨ lg = 1 := by omega
          have : x % 2 = 0 ∨ x % 2 = 1 := by omega
          rcases ‹lg = 0 ∨ lg = 1› with e | e <;> rcases ‹x % 2 = 0 ∨ x % 2 = 1› with e' | e' <;> simp [e, e']
        have e : timF [.d (.str "z"), .d (.int (lg * (x % 2)))] = if (decide (-9223372036854775808 ≤ lg * (x % 2)) && decide (lg * (x % 2) ≤ 1)) = true then some (.d (.str (if lg * (x % 2) = 1 then "z" else Str.empty))) else none := rfl
        rw [e, if_pos (by rcases h3 with h | h <;> simp [h])]
      rw [htz]
      have lz : (if lg * (i % 2) = 1 then ("z" : Str) else Str.empty).length ≤ 1 := by split <;> decide
      have loz : Low (if lg * (i % 2) = 1 then ("z" : Str) else Str.empty) := by split <;> decide +kernel
      generalize (if lg * (i % 2) = 1 then ("z" : Str) else Str.empty) = zz at lz loz
      bv_omega
      have lx := L_len (cutS stem none (some at1))
      have ly := L_len (cutS stem (some at1) none)
      have tot : (cutS stem none (some at1)).length + (cutS stem (some at1) none).length = stem.length := by
        obtain ⟨n, rfl⟩ := Int.eq_ofNat_of_zero_le a0
        have e1 := L_cut stem none (some (n : Int))
        have e2 := L_cut stem (some (n : Int)) none
        rw [cutD_hi] at e1
        rw [cutD_lo] at e2
        rw [← lx, ← ly, e1, e2, List.length_take, List.length_drop, L_len]
        omega
      have hlow0 : Low (cutS stem none (some at1) ++ sg ++ cutS stem (some at1) none ++ zz) := low_app (low_app (low_app (low_cut hlow _ _) loS) (low_cut hlow _ _)) loz
      have hl5 : (cutS stem none (some at1) ++ sg ++ cutS stem (some at1) none ++ zz).length ≤ 5 := by simp only [len_app]; omega
      have hl1 : 0 < (cutS stem none (some at1) ++ sg ++ cutS stem (some at1) none ++ zz).length := by simp only [len_app]; omega
      generalize cutS stem none (some at1) ++ sg ++ cutS stem (some at1) none ++ zz = nm at hlow0 hl5 hl1
      obtain ⟨P, j, he⟩ := ends_of hlow0 hl1
      obtain ⟨j0, hj0, hfree⟩ := ends_free (P := P) (F := takenS ++ fs) (by simp only [List.length_append]; have : takenS.length = 19 := rfl; omega)
      refine wp_whI (fun kk g => ∃ (nm : Str) (j : Nat) (o10 : Option O), Ends nm P j ∧ Low nm ∧ nm.length ≤ 5 ∧ kk = (j0 + 26 - j) % 26 ∧
        g = [some (.lst [.d (.int c), .d (.int s)]), some (.d (.int many)), some (.d (.str "abcdefghijklmnopqrstuvwxyz")), some (.lst ((takenS.map PyData.str).map O.d)), some (.d (.str stem)), some (.d (.int at1)), some (.d (.int turn)), some (.d (.int lg)), some (.lst ((fs.map PyData.str).map O.d)), some (.d (.int i)), o10, some (.d (.str nm))]) ?_ (k := (j0 + 26 - j) % 26) (by omega) ⟨nm, j, _, he, hlow0, hl5, rfl, rfl⟩
      rintro kk g ⟨nm, j, o10, he, hlow, hl5, rfl, rfl⟩
      have hjl := he.2
      refine wp_orP (decide (nm ∈ takenS ∨ nm ∈ fs)) ?_ ?_
      · array_mem_dec
      · refine IfK.dec (fun hin => ?_) (fun hout => ?_)
        · bv_omega
          rw [ends_last he (by omega)]
          bv_omega
          rw [idx_sgn hjl]
          bv_omega
          rw [lets_ix (Int.emod_nonneg _ (by omega)) (Int.emod_lt_of_pos _ (by omega))]
          bv_omega
          have hne : j ≠ j0 := fun e => by
            subst e
            have := hfree nm he
            rcases hin with h | h
            · exact this (List.mem_append_left _ h)
            · exact this (List.mem_append_right _ h)
          have ej : (((j : Int) + 1) % 26).toNat = (j + 1) % 26 := by omega
          rw [ej]
          have hsl : (sgn ((j + 1) % 26)).length = 1 := rfl
          have hcl : (cutS nm none (some (-1))).length ≤ nm.length - 1 := by
            have e := L_cut nm none (some (-1))
            rw [cutD_neg1] at e
            have := congrArg List.length e
            rw [L_len, List.length_dropLast, L_len] at this
            omega
          bv_omega
          refine ⟨_, ?_, cutS nm none (some (-1)) ++ sgn ((j + 1) % 26), (j + 1) % 26, _, ends_next he (Nat.mod_lt _ (by omega)), low_app (low_cut hlow _ _) ?_, by simp only [len_app]; have : 0 < nm.length := (by have := congrArg List.length he.1; rw [L_len] at this; simp at this; omega); omega, rfl, rfl⟩
          · omega
          · intro c m
            rw [show L (sgn ((j + 1) % 26)) = [97 + (j + 1) % 26] from rfl, List.mem_singleton] at m
            subst m
            exact List.mem_of_getElem? (lets_at _ (Nat.mod_lt _ (by omega)))
        · bv_omega
          have hpos : 0 < nm.length := by have := congrArg List.length he.1; rw [L_len] at this; simp at this; omega
          have hnm : NmOk nm := ⟨hpos, hl5, hlow, fun h => hout (.inl h)⟩
          refine ⟨fs ++ [nm], _, _, _, by simp; omega, ?_, ?_, (by first | rfl | (simp only [List.map_append, List.map_cons, List.map_nil, List.cons_append, List.nil_append, List.append_assoc]; rfl))⟩
          · rw [List.nodup_append]
            exact ⟨hn, by simp, fun a ha b hb e => hout (.inr (by rw [List.mem_singleton] at hb; subst hb; subst e; exact ha))⟩
          · intro z hz
            rcases List.mem_append.mp hz with h | h
            · exact hk z h
            · rw [List.mem_singleton.mp h]; exact hnm
  · rintro d hd g ⟨c, s, rfl⟩
    bv_omega
    intro m c s h2 h3; bv_omega
    refine optW_ixS (by decide) h2 h3 fun x hx => ?_
    exact ⟨⟨#[x]⟩, rfl, ⟨rfl, low_one low_lets hx⟩, c, s, rfl⟩
end G
namespace G
open PySem PySem.Spec L2 Z
local macro_rules | `(tactic| bv_omega) => `(tactic| repeat (first | with_reducible refine Stp.go ?_ | ((with_reducible refine Sd.mk ?_ ?_); focus (first | assumption | omega | exact Nat.zero_le _ | exact mulC_l | exact mulC_r | (simp only [List.length_cons, List.length_nil, List.length_map, List.length_append, Z.len_app]; omega) | (simp only [List.length_map, List.length_append, List.length_cons, List.length_nil, Z.intsF_len] at *; omega) | with_unfolding_all exact rfl | (refine powC_of ?_; omega) | assumption | exact List.mem_cons_self)) | with_reducible refine IfK.dt (by decide) ?_ | with_reducible refine IfK.df (by decide) ?_))
local macro_rules | `(tactic| array_get_dec) => `(tactic| repeat ((fail_if_success (with_reducible refine isJn ?_)); (first | with_reducible refine Stp.go ?_ | ((with_reducible refine Sd.mk ?_ ?_); focus (first | assumption | omega | exact Nat.zero_le _ | exact mulC_l | exact mulC_r | (simp only [List.length_cons, List.length_nil, List.length_map, List.length_append, Z.len_app]; omega) | (simp only [List.length_map, List.length_append, List.length_cons, List.length_nil, Z.intsF_len] at *; omega) | with_unfolding_all exact rfl | (refine powC_of ?_; omega) | assumption | exact List.mem_cons_self)) | with_reducible refine IfK.dt (by decide) ?_ | with_reducible refine IfK.df (by decide) ?_)))
local macro_rules | `(tactic| array_mem_dec) => `(tactic| (repeat' (first | (first | with_reducible refine Stp.go ?_ | ((with_reducible refine Sd.mk ?_ ?_); focus (first | assumption | omega | exact Nat.zero_le _ | exact mulC_l | exact mulC_r | (simp only [List.length_cons, List.length_nil, List.length_map, List.length_append, Z.len_app]; omega) | (simp only [List.length_map, List.length_append, List.length_cons, List.length_nil, Z.intsF_len] at *; omega) | with_unfolding_all exact rfl | (refine powC_of ?_; omega) | assumption | exact List.mem_cons_self)) | with_reducible refine IfK.dt (by decide) ?_ | with_reducible refine IfK.df (by decide) ?_) | refine IfK.dec (fun _ => ?_) (fun _ => ?_) | (refine CndK.mk ?_; first | rfl | (simp [*]; done) | (simp; omega) | (simp at *; done) | (simp at *; simp [*]; done) | (simp at *; omega)))))
local macro_rules | `(tactic| sizeOf_list_dec) => `(tactic| repeat ((fail_if_success (first | with_reducible refine isLc ?_ | with_reducible refine isFor ?_)); (first | with_reducible refine Stp.go ?_ | ((with_reducible refine Sd.mk ?_ ?_); focus (first | assumption | omega | exact Nat.zero_le _ | exact mulC_l | exact mulC_r | (simp only [List.length_cons, List.length_nil, List.length_map, List.length_append, Z.len_app]; omega) | (simp only [List.length_map, List.length_append, List.length_cons, List.length_nil, Z.intsF_len] at *; omega) | with_unfolding_all exact rfl | (refine powC_of ?_; omega) | assumption | exact List.mem_cons_self)) | with_reducible refine IfK.dt (by decide) ?_ | with_reducible refine IfK.df (by decide) ?_)))
instance o_srt {o : O} {ds : List PyData} {is : List Int} [l : LsC o ds] [q : ItsC ds is] {AO : O → Prop} : Stp (optW (srtF [o]) AO) (Sd (is.length < 64) (AO (.lst (((srtS is).map PyData.int).map O.d)))) := ⟨fun h => by
  have e : srtF [o] = some (.lst (((srtS is).map PyData.int).map O.d)) := by
    simp only [srtF, l.eq, q.eq, intsOf_map, h.l, if_true, List.map_map]
    rfl
  rw [e]; exact h.r⟩
theorem allD_app : ∀ {a : List O} {ds : List PyData} {x : PyData}, allD a = some ds → allD (a ++ [.d x]) = some (ds ++ [x])
  | [], ds, x, h => by simp only [allD, Option.some.injEq] at h; subst h; rfl
  | .d y :: r, ds, x, h => by
    simp only [allD] at h
    cases q : allD r with
    | none => rw [q] at h; cases h
    | some t => rw [q] at h; cases h; simp [allD, allD_app q]
  | .gL _ :: _, _, _, h => by simp [allD] at h
  | .gT _ :: _, _, _, h => by simp [allD] at h
  | .lst _ :: _, _, _, h => by simp [allD] at h
  | .tup _ :: _, _, _, h => by simp [allD] at h
  | .dK _ :: _, _, _, h => by simp [allD] at h
  | .dT _ :: _, _, _, h => by simp [allD] at h
  | .ins _ _ :: _, _, _, h => by simp [allD] at h
  | .gD _ :: _, _, _, h => by simp [allD] at h
  | .pin _ :: _, _, _, h => by simp [allD] at h
instance allSn {a : List O} {ds : List PyData} {x : PyData} [h : AllC a ds] : AllC (a ++ [.d x]) (ds ++ [x]) := ⟨allD_app h.eq⟩
instance nthLast {ds : List PyData} {x : PyData} : NthC (ds ++ [x]) (-1) x := ⟨by
  unfold atI ixN
  rw [if_neg (by omega), if_pos (by simp; omega)]
  have : ((-1 : Int) + ((ds ++ [x]).length : Int)).toNat = ds.length := by simp; omega
  rw [this]
  simp⟩
theorem any_int {t : Int} : ∀ {ss : List Int}, ((ss.map PyData.int).any fun z => PyData.eqv z (.int t)) = decide (t ∈ ss)
  | [] => by simp
  | s :: r => by
    rw [List.map_cons, List.any_cons, any_int, eqv_int]
    by_cases h : s = t
    · simp [h]
    · have h' : ¬ t = s := fun e => h e.symm
      simp [h, h']
theorem flat_int : ∀ {ss : List Int}, (ss.map PyData.int).all flatD = true
  | [] => rfl
  | s :: r => by rw [List.map_cons, List.all_cons, flat_int]; rfl
theorem o_inIG {neg : Bool} {o : O} {ds : List PyData} {is : List Int} {t : Int} [l : LtC o ds] [q : ItsC ds is] {AO : O → Prop} (h : AO (.d (.bool (if neg then !decide (t ∈ is) else decide (t ∈ is))))) : optW (inF neg [.d (.int t), o]) AO := by
  refine z_in (b := decide (t ∈ is)) ?_ h
  have h1 := l.eq
  have h2 : inB (.d (.int t)) o = match asLT o with
    | some ds => if flatD (.int t) = true ∧ ds.all flatD = true then some (ds.any fun z => PyData.eqv z (.int t)) else none
    | none => none := by
    cases o with
    | d z => cases z <;> first | (simp [asLT, asL, asT] at h1; done) | rfl
    | _ => first | (simp [asLT, asL, asT] at h1; done) | rfl
  rw [h2, h1, q.eq]
  simp only [flat_int, any_int]
  rfl
instance o_inI {o : O} {ds : List PyData} {is : List Int} {t : Int} [l : LtC o ds] [q : ItsC ds is] {AO : O → Prop} : Stp (optW (inF false [.d (.int t), o]) AO) (AO (.d (.bool (decide (t ∈ is))))) := ⟨fun h => o_inIG (neg := false) h⟩
instance o_ninI {o : O} {ds : List PyData} {is : List Int} {t : Int} [l : LtC o ds] [q : ItsC ds is] {AO : O → Prop} : Stp (optW (inF true [.d (.int t), o]) AO) (AO (.d (.bool (!decide (t ∈ is))))) := ⟨fun h => o_inIG (neg := true) h⟩
theorem ix_get {α : Type} {e : α → PyData} {l : List α} {o : O} {i : Nat} {A : O → Prop} (hl : asLT o = some (l.map e)) (h : i < l.length) (hs : ∀ z, o ≠ .d (.str z)) (k : A (.d (e l[i]))) : optW (ixF [o, .d (.int (i : Nat))]) A := by
  have e1 : ixF [o, .d (.int (i : Nat))] = some (.d (e l[i])) := by
    have h2 : atI (l.map e) (i : Int) = some (e l[i]) := atI_lit (by simp [h])
    unfold ixF
    split
    · rename_i e
      simp only [List.cons.injEq, O.d.injEq, PyData.int.injEq, and_true] at e
      exact absurd e.1 (hs _)
    · rename_i e
      simp only [List.cons.injEq, O.d.injEq, PyData.int.injEq, and_true] at e
      obtain ⟨rfl, rfl⟩ := e
      simp only [hl, h2]
    · rename_i h0 _
      first | exact absurd rfl (h0 _ _) | simp_all
  rw [e1]
  exact k
theorem idx_get {l : List Str} (hn : l.Nodup) {p : Str} (hp : p ∈ l) {i : Nat} (h : i < l.length) : p = l[i] ↔ l.idxOf p = i := by
  constructor
  · intro e
    subst e
    exact hn.idxOf_getElem i h
  · intro e
    subst e
    exact (List.getElem_idxOf h).symm
def Fact.base (b : Book) (n : Int) : Fact → Option Nat
  | .still p => some (b.deeds.idxOf p)
  | .idles q v p => if bitI n (b.asks.idxOf q) = v then some (b.deeds.idxOf p) else none
  | _ => none
/-- the least set of deeds that do nothing at (n, d) -/
inductive Rst (b : Book) (n d : Int) : Nat → Prop
  | base {f : Fact} {x : Nat} : f ∈ b.facts → f.base b n = some x → Rst b n d x
  | first {p r : Str} : Fact.rests p r ∈ b.facts → d = b.deeds.idxOf p → Rst b n d (b.deeds.idxOf r)
  | next {p r : Str} : Fact.rests p r ∈ b.facts → Rst b n d (b.deeds.idxOf p) → Rst b n d (b.deeds.idxOf r)
structure Book.Fit (b : Book) : Prop where
  asksN : b.asks.Nodup
  deedsN : b.deeds.Nodup
  asksL : b.asks.length ≤ 3
  deedsP : 1 ≤ b.deeds.length
  deedsL : b.deeds.length ≤ 3
  factsL : b.facts.length ≤ 6
  factsO : ∀ f ∈ b.facts, f.over b.asks b.deeds
theorem ne_of_mem {α : Type} {x : α} {l : List α} (h : x ∈ l) : l ≠ [] := fun e => by rw [e] at h; cases h
theorem fw_rests {b : Book} (hb : b.Fit) {n d : Int} (hn : 0 ≤ n) (hd : -1 ≤ d) (hd2 : d < b.deeds.length) {A : O → List O → Prop} {B : Exn → Prop}
    (k : ∀ xs : List Nat, xs.length < 64 → (∀ x, x ∈ xs ↔ Rst b n d x) → (∀ x ∈ xs, x < b.deeds.length) → A (.lst (((srtS (xs.map fun (x : Nat) => (x : Int))).map PyData.int).map O.d)) [.d b.d, .d (.int n), .d (.int d)]) :
    FW (f_law_rests [.d b.d, .d (.int n), .d (.int d)]) A B := by
  have hf6 := hb.factsL
  have hd3 := hb.deedsL
  refine fwRun ?_
  unfold g_law_rests
  simp only [Book.d] at k ⊢
  bv_omega
  refine wp_forI Fact.d (fun r g => ∃ (done : List Fact) (o7 : Option O), done ++ r = b.facts ∧
    g = [some (.d b.d), some (.d (.int n)), some (.d (.int d)), some (.d (.tuple (b.asks.map PyData.str))), some (.d (.tuple (b.deeds.map PyData.str))), some (.d (.tuple (b.facts.map Fact.d))),
      some (.lst (((done.filterMap (Fact.base b n)).map fun (x : Nat) => PyData.int x).map O.d)), o7, none, none]) ?_ ?_ ⟨[], none, rfl, rfl⟩
  · rintro g ⟨done, o7, hdn, rfl⟩
    rw [List.append_nil] at hdn
    subst hdn
    refine Stp.go (wp_jn (fun g => ∃ (pre : List Int) (o7 : Option O), (pre = [d] ∧ 0 ≤ d ∨ pre = [] ∧ d < 0) ∧
      g = [some (.d b.d), some (.d (.int n)), some (.d (.int d)), some (.d (.tuple (b.asks.map PyData.str))), some (.d (.tuple (b.deeds.map PyData.str))), some (.d (.tuple (b.facts.map Fact.d))),
      some (.lst (((b.facts.filterMap (Fact.base b n)).map fun (x : Nat) => PyData.int x).map O.d)), o7, some (.lst ((pre.map PyData.int ++ ((b.facts.filterMap (Fact.base b n)).map fun (x : Nat) => PyData.int x)).map O.d)), none]) ?_ ?_)
    · have hfl := List.length_filterMap_le (Fact.base b n) b.facts
      bv_omega
      refine IfK.dec (fun e => ?_) (fun e => ?_)
      · bv_omega
        exact ⟨[d], _, .inl ⟨rfl, e⟩, rfl⟩
      · bv_omega
        exact ⟨[], _, .inr ⟨rfl, by omega⟩, rfl⟩
    · rintro g ⟨pre, o7, hpre, rfl⟩
      have hfl := List.length_filterMap_le (Fact.base b n) b.facts
      have hB : ∀ x ∈ b.facts.filterMap (Fact.base b n), x < b.deeds.length ∧ Rst b n d x := by
        intro x hx
        obtain ⟨f, hf, e⟩ := List.mem_filterMap.mp hx
        refine ⟨?_, .base hf e⟩
        have ho := hb.factsO f hf
        cases f with
        | still p => simp only [Fact.base, Option.some.injEq] at e; subst e; exact List.idxOf_lt_length_of_mem ho
        | idles q v p =>
          simp only [Fact.base] at e
          split at e
          · cases e; exact List.idxOf_lt_length_of_mem ho.2
          · cases e
        | _ => simp [Fact.base] at e
      generalize hB0 : b.facts.filterMap (Fact.base b n) = B0 at hB hfl ⊢
      have hpl : pre.length ≤ 1 := by rcases hpre with ⟨rfl, _⟩ | ⟨rfl, _⟩ <;> simp
      bv_omega
      refine wp_whI (fun kk g => ∃ (at1 : Nat) (app : List Nat) (o7 : Option O), kk = 1 + B0.length + b.deeds.length - at1 ∧ at1 ≤ pre.length + B0.length + app.length ∧ app.Nodup ∧ (∀ x ∈ app, x < b.deeds.length ∧ Rst b n d x) ∧
        (∀ (j : Nat) (p r : Str), j < at1 → Fact.rests p r ∈ b.facts → (pre ++ (B0 ++ app).map fun (x : Nat) => (x : Int))[j]? = some (b.deeds.idxOf p : Int) → b.deeds.idxOf r ∈ B0 ++ app) ∧
        g = [some (.d b.d), some (.d (.int n)), some (.d (.int d)), some (.d (.tuple (b.asks.map PyData.str))), some (.d (.tuple (b.deeds.map PyData.str))), some (.d (.tuple (b.facts.map Fact.d))),
          some (.lst (((B0 ++ app).map fun (x : Nat) => PyData.int x).map O.d)), o7, some (.lst (((pre ++ (B0 ++ app).map fun (x : Nat) => (x : Int)).map PyData.int).map O.d)), some (.d (.int at1))]) ?_ (k := 1 + B0.length + b.deeds.length) (by omega) ⟨0, [], o7, by simp, by omega, .nil, by simp, by simp, by simp⟩
      rintro kk g ⟨at1, app, o7, rfl, hat, hnd, happ, hcl, rfl⟩
      have hal : app.length ≤ b.deeds.length := by
        have := nodup_sub (m := List.range b.deeds.length) hnd fun x hx => List.mem_range.mpr (happ x hx).1
        simpa using this
      bv_omega
      refine IfK.dec (fun hlt => ?_) (fun hge => ?_)
      · simp only [List.length_map, List.length_append] at hlt
        have hlt' : at1 < (pre ++ (B0 ++ app).map fun (x : Nat) => (x : Int)).length := by simp; omega
        -- the deed that is looked at
        obtain ⟨c, hc1, hc2, hc3⟩ : ∃ c : Nat, (pre ++ (B0 ++ app).map fun (x : Nat) => (x : Int))[at1] = (c : Int) ∧ c < b.deeds.length ∧ ((d = (c : Int)) ∨ Rst b n d c) := by
          have hm := List.getElem_mem hlt'
          rcases List.mem_append.mp hm with h | h
          · rcases hpre with ⟨rfl, h0⟩ | ⟨rfl, _⟩
            · rw [List.mem_singleton] at h
              exact ⟨d.toNat, by rw [h]; omega, by omega, .inl (by omega)⟩
            · cases h
          · obtain ⟨x, hx, e⟩ := List.mem_map.mp h
            rcases List.mem_append.mp hx with hx | hx
            · exact ⟨x, e.symm, (hB x hx).1, .inr (hB x hx).2⟩
            · exact ⟨x, e.symm, (happ x hx).1, .inr (happ x hx).2⟩
        bv_omega
        refine wp_forI Fact.d (fun r g => ∃ (done : List Fact) (app2 : List Nat) (o7 : Option O), done ++ r = b.facts ∧ (∃ ext, app2 = app ++ ext) ∧ app2.Nodup ∧ (∀ x ∈ app2, x < b.deeds.length ∧ Rst b n d x) ∧
          (∀ p r, Fact.rests p r ∈ done → c = b.deeds.idxOf p → b.deeds.idxOf r ∈ B0 ++ app2) ∧
          g = [some (.d b.d), some (.d (.int n)), some (.d (.int d)), some (.d (.tuple (b.asks.map PyData.str))), some (.d (.tuple (b.deeds.map PyData.str))), some (.d (.tuple (b.facts.map Fact.d))),
          some (.lst (((B0 ++ app2).map fun (x : Nat) => PyData.int x).map O.d)), o7, some (.lst (((pre ++ (B0 ++ app2).map fun (x : Nat) => (x : Int)).map PyData.int).map O.d)), some (.d (.int at1))]) ?_ ?_ ⟨[], app, o7, rfl, ⟨[], by simp⟩, hnd, happ, by simp, rfl⟩
        · rintro g ⟨done, app2, o7, hdn, ⟨ext, rfl⟩, hnd2, happ2, hcl2, rfl⟩
          rw [List.append_nil] at hdn
          subst hdn
          bv_omega
          refine ⟨1 + B0.length + b.deeds.length - (at1 + 1), by omega, at1 + 1, app ++ ext, o7, rfl, by simp; omega, hnd2, happ2, ?_, by simp⟩
          intro j p r hj hf e
          by_cases hja : j = at1
          · subst hja
            refine hcl2 p r hf ?_
            have e2 : (pre ++ (B0 ++ (app ++ ext)).map fun (x : Nat) => (x : Int))[j]? = some (c : Int) := by
              have e3 : (pre ++ (B0 ++ (app ++ ext)).map fun (x : Nat) => (x : Int)) = (pre ++ (B0 ++ app).map fun (x : Nat) => (x : Int)) ++ (ext.map fun (x : Nat) => (x : Int)) := by simp
              rw [e3, List.getElem?_append_left hlt', List.getElem?_eq_getElem hlt', hc1]
            rw [e2] at e
            have := Option.some.inj e
            omega
          · have hj' : j < at1 := by omega
            have e3 : (pre ++ (B0 ++ (app ++ ext)).map fun (x : Nat) => (x : Int)) = (pre ++ (B0 ++ app).map fun (x : Nat) => (x : Int)) ++ (ext.map fun (x : Nat) => (x : Int)) := by simp
            rw [e3, List.getElem?_append_left (by omega)] at e
            have := hcl j p r hj' hf e
            simp only [List.mem_append] at this ⊢
            rcases this with h | h
            · exact .inl h
            · exact .inr (.inl h)
        · rintro f r g ⟨done, app2, o7, hdn, ⟨ext, rfl⟩, hnd2, happ2, hcl2, rfl⟩
          have hff : f ∈ b.facts := by rw [← hdn]; simp
          have hfo := hb.factsO f hff
          have nx : done ++ [f] ++ r = b.facts := by rw [← hdn]; simp
          have hal2 : (app ++ ext).length ≤ b.deeds.length := by
            have := nodup_sub (m := List.range b.deeds.length) hnd2 fun x hx => List.mem_range.mpr (happ2 x hx).1
            simpa using this
          cases f with
          | rests p r =>
            have h1 := ne_of_mem hfo.1
            have h2 := hfo.2
            simp only [Fact.d] at *
            bv_omega
            have hlt2 : at1 < (pre ++ (B0 ++ (app ++ ext)).map fun (x : Nat) => (x : Int)).length := by simp at hlt' ⊢; omega
            have hval : (pre ++ (B0 ++ (app ++ ext)).map fun (x : Nat) => (x : Int))[at1] = (c : Int) := by
              have e3 : (pre ++ (B0 ++ (app ++ ext)).map fun (x : Nat) => (x : Int)) = (pre ++ (B0 ++ app).map fun (x : Nat) => (x : Int)) ++ (ext.map fun (x : Nat) => (x : Int)) := by simp
              rw [List.getElem_of_eq e3, List.getElem_append_left hlt', hc1]
            refine ix_get (e := PyData.int) (l := pre ++ (B0 ++ (app ++ ext)).map fun (x : Nat) => (x : Int)) (asLT_d (allD_map _)) hlt2 (by simp) ?_
            rw [hval]
            bv_omega
            refine ix_get (e := PyData.str) (l := b.deeds) rfl hc2 (by simp) ?_
            bv_omega
            refine IfK.dec (fun e => ?_) (fun e => ?_)
            · have ec : b.deeds.idxOf p = c := (idx_get hb.deedsN hfo.1 hc2).mp e
              bv_omega
              refine IfK.dec (fun hin => ?_) (fun hout => ?_)
              · bv_omega
                refine ⟨_, app ++ ext, _, nx, ⟨ext, rfl⟩, hnd2, happ2, ?_, rfl⟩
                intro p' r' hm e'
                rcases List.mem_append.mp hm with h | h
                · exact hcl2 p' r' h e'
                · rw [List.mem_singleton] at h
                  cases h
                  obtain ⟨x, hx, e2⟩ := List.mem_map.mp hin
                  have : x = b.deeds.idxOf r := by omega
                  rw [← this]
                  exact hx
              · bv_omega
                have hr : b.deeds.idxOf r ∉ B0 ++ (app ++ ext) := fun h => hout (List.mem_map.mpr ⟨_, h, rfl⟩)
                have hR : Rst b n d (b.deeds.idxOf r) := by
                  rcases hc3 with h | h
                  · exact .first hff (by rw [ec]; exact h)
                  · exact .next hff (by rw [ec]; exact h)
                refine ⟨_, (app ++ ext) ++ [b.deeds.idxOf r], _, nx, ⟨ext ++ [b.deeds.idxOf r], by simp⟩, ?_, ?_, ?_, by simp; rfl⟩
                · rw [List.nodup_append]
                  refine ⟨hnd2, by simp, fun a ha z hz e => ?_⟩
                  rw [List.mem_singleton] at hz
                  subst hz; subst e
                  exact hr (List.mem_append_right _ ha)
                · intro x hx
                  rcases List.mem_append.mp hx with h | h
                  · exact happ2 x h
                  · rw [List.mem_singleton.mp h]
                    exact ⟨List.idxOf_lt_length_of_mem h2, hR⟩
                · intro p' r' hm e'
                  rcases List.mem_append.mp hm with h | h
                  · have := hcl2 p' r' h e'
                    simp only [List.mem_append] at this ⊢
                    rcases this with h | h | h
                    · exact .inl h
                    · exact .inr (.inl (.inl h))
                    · exact .inr (.inl (.inr h))
                  · rw [List.mem_singleton] at h
                    cases h
                    simp
            · bv_omega
              refine ⟨_, app ++ ext, _, nx, ⟨ext, rfl⟩, hnd2, happ2, ?_, rfl⟩
              intro p' r' hm e'
              rcases List.mem_append.mp hm with h | h
              · exact hcl2 p' r' h e'
              · rw [List.mem_singleton] at h
                cases h
                exact absurd ((idx_get hb.deedsN hfo.1 hc2).mpr e'.symm) e
          | _ =>
            simp only [Fact.d] at *
            bv_omega
            exact ⟨_, app ++ ext, _, nx, ⟨ext, rfl⟩, hnd2, happ2, by simpa using hcl2, rfl⟩
      · simp only [List.length_map, List.length_append] at hge
        have hend : at1 = pre.length + B0.length + app.length := by omega
        bv_omega
        refine k (B0 ++ app) (by simp; omega) (fun x => ⟨fun hx => ?_, fun hx => ?_⟩) (fun x hx => ?_)
        · rcases List.mem_append.mp hx with h | h
          · exact (hB x h).2
          · exact (happ x h).2
        · induction hx with
          | base hf e => exact List.mem_append_left _ (by rw [← hB0]; exact List.mem_filterMap.mpr ⟨_, hf, e⟩)
          | first hf e =>
            rcases hpre with ⟨rfl, h0⟩ | ⟨rfl, h0⟩
            · exact hcl 0 _ _ (by simp at hend; omega) hf (by simp [e])
            · omega
          | next hf _ ih =>
            obtain ⟨j, hj, e⟩ := List.getElem_of_mem ih
            refine hcl (pre.length + j) _ _ (by simp at hj; omega) hf ?_
            rw [List.getElem?_append_right (by omega), Nat.add_sub_cancel_left, List.getElem?_map, List.getElem?_eq_getElem hj, e]
            rfl
        · rcases List.mem_append.mp hx with h | h
          · exact (hB x h).1
          · exact (happ x h).1
  · rintro f r g ⟨done, o7, hdn, rfl⟩
    have hfo := hb.factsO f (by rw [← hdn]; simp)
    have hlen : done.length < 6 := by have := congrArg List.length hdn; simp at this; omega
    have hfl := List.length_filterMap_le (Fact.base b n) done
    have nx : done ++ [f] ++ r = b.facts := by rw [← hdn]; simp
    cases f with
    | still p =>
      have h1 := ne_of_mem hfo
      simp only [Fact.d, Fact.over] at *
      bv_omega
      exact ⟨_, _, nx, by simp [Fact.base]; rfl⟩
    | idles q v p =>
      have h1 := ne_of_mem hfo.1
      have h2 := ne_of_mem hfo.2
      have h3 := hfo.1
      have h4 := hfo.2
      simp only [Fact.d, Fact.over] at *
      bv_omega
      rw [bit_eq]
      refine IfK.dec (fun e => ?_) (fun e => ?_)
      · bv_omega
        exact ⟨_, _, nx, by simp [Fact.base, e]; rfl⟩
      · bv_omega
        exact ⟨_, _, nx, by simp [Fact.base, e]; rfl⟩
    | _ =>
      simp only [Fact.d] at *
      bv_omega
      exact ⟨_, _, nx, by simp [Fact.base]; rfl⟩
end G
namespace G
open PySem PySem.Spec L2 Z
local macro_rules | `(tactic| bv_omega) => `(tactic| repeat (first | with_reducible refine Stp.go ?_ | ((with_reducible refine Sd.mk ?_ ?_); focus (first | assumption | omega | exact Nat.zero_le _ | exact mulC_l | exact mulC_r | (simp only [List.length_cons, List.length_nil, List.length_map, List.length_append, Z.len_app]; omega) | (simp only [List.length_map, List.length_append, List.length_cons, List.length_nil, Z.intsF_len] at *; omega) | with_unfolding_all exact rfl | (refine powC_of ?_; omega) | assumption | exact List.mem_cons_self)) | with_reducible refine IfK.dt (by decide) ?_ | with_reducible refine IfK.df (by decide) ?_))
local macro_rules | `(tactic| array_get_dec) => `(tactic| repeat ((fail_if_success (with_reducible refine isJn ?_)); (first | with_reducible refine Stp.go ?_ | ((with_reducible refine Sd.mk ?_ ?_); focus (first | assumption | omega | exact Nat.zero_le _ | exact mulC_l | exact mulC_r | (simp only [List.length_cons, List.length_nil, List.length_map, List.length_append, Z.len_app]; omega) | (simp only [List.length_map, List.length_append, List.length_cons, List.length_nil, Z.intsF_len] at *; omega) | with_unfolding_all exact rfl | (refine powC_of ?_; omega) | assumption | exact List.mem_cons_self)) | with_reducible refine IfK.dt (by decide) ?_ | with_reducible refine IfK.df (by decide) ?_)))
local macro_rules | `(tactic| array_mem_dec) => `(tactic| (repeat' (first | (first | with_reducible refine Stp.go ?_ | ((with_reducible refine Sd.mk ?_ ?_); focus (first | assumption | omega | exact Nat.zero_le _ | exact mulC_l | exact mulC_r | (simp only [List.length_cons, List.length_nil, List.length_map, List.length_append, Z.len_app]; omega) | (simp only [List.length_map, List.length_append, List.length_cons, List.length_nil, Z.intsF_len] at *; omega) | with_unfolding_all exact rfl | (refine powC_of ?_; omega) | assumption | exact List.mem_cons_self)) | with_reducible refine IfK.dt (by decide) ?_ | with_reducible refine IfK.df (by decide) ?_) | refine IfK.dec (fun _ => ?_) (fun _ => ?_) | (refine CndK.mk ?_; first | rfl | (simp [*]; done) | (simp; omega) | (simp at *; done) | (simp at *; simp [*]; done) | (simp at *; omega)))))
local macro_rules | `(tactic| sizeOf_list_dec) => `(tactic| repeat ((fail_if_success (first | with_reducible refine isLc ?_ | with_reducible refine isFor ?_)); (first | with_reducible refine Stp.go ?_ | ((with_reducible refine Sd.mk ?_ ?_); focus (first | assumption | omega | exact Nat.zero_le _ | exact mulC_l | exact mulC_r | (simp only [List.length_cons, List.length_nil, List.length_map, List.length_append, Z.len_app]; omega) | (simp only [List.length_map, List.length_append, List.length_cons, List.length_nil, Z.intsF_len] at *; omega) | with_unfolding_all exact rfl | (refine powC_of ?_; omega) | assumption | exact List.mem_cons_self)) | with_reducible refine IfK.dt (by decide) ?_ | with_reducible refine IfK.df (by decide) ?_)))
instance o_neB {p q : Bool} {AO : O → Prop} : Stp (optW (neF [.d (.bool p), .d (.bool q)]) AO) (AO (.d (.bool (!decide (p = q))))) := ⟨fun h => by
  have e : neF [.d (.bool p), .d (.bool q)] = some (.d (.bool (!decide (p = q)))) := by
    simp [neF, eqB, O.fz, SeqAt.shaped, PyData.eqv, PyData.canLay0, PyData.depth, beqd]
  rw [e]; exact h⟩
def Fact.fits (b : Book) (n d : Int) (still : List Int) : Fact → Bool
  | .never t => !t.so b.asks n
  | .makes p q v => !decide ((b.deeds.idxOf p : Int) ∈ d :: still) || decide (bitI n (b.asks.idxOf q) = v)
  | _ => true
theorem fw_fits {b : Book} (hb : b.Fit) {n d : Int} (hn : 0 ≤ n) {still : List Int} (hs : still.length ≤ 100) {A : O → List O → Prop} {B : Exn → Prop}
    (k : A (.d (.bool (b.facts.all fun f => f.fits b n d still))) [.d b.d, .d (.int n), .d (.int d), .lst ((still.map PyData.int).map O.d)]) :
    FW (f_law_fits [.d b.d, .d (.int n), .d (.int d), .lst ((still.map PyData.int).map O.d)]) A B := by
  have hf6 := hb.factsL
  have hd3 := hb.deedsL
  refine fwRun ?_
  unfold g_law_fits
  have e0 : b.d = .tuple [.tuple (b.asks.map PyData.str), .tuple (b.deeds.map PyData.str), .tuple (b.facts.map Fact.d)] := rfl
  rw [e0] at k ⊢
  bv_omega
  refine wp_forI Fact.d (fun r g => ∃ (done : List Fact) (o7 : Option O), done ++ r = b.facts ∧ (∀ f ∈ done, f.fits b n d still = true) ∧
    g = [some (.d b.d), some (.d (.int n)), some (.d (.int d)), some (.lst ((still.map PyData.int).map O.d)), some (.d (.tuple (b.asks.map PyData.str))), some (.d (.tuple (b.deeds.map PyData.str))), some (.d (.tuple (b.facts.map Fact.d))), o7]) ?_ ?_ ⟨[], none, rfl, by simp, rfl⟩
  · rintro g ⟨done, o7, hdn, hall, rfl⟩
    rw [List.append_nil] at hdn
    subst hdn
    bv_omega
    have : (b.facts.all fun f => f.fits b n d still) = true := List.all_eq_true.mpr hall
    rw [this] at k
    exact k
  · rintro f r g ⟨done, o7, hdn, hall, rfl⟩
    have hff : f ∈ b.facts := by rw [← hdn]; simp
    have hfo := hb.factsO f hff
    have nx : done ++ [f] ++ r = b.facts := by rw [← hdn]; simp
    have no : f.fits b n d still = false → A (.d (.bool false)) [.d b.d, .d (.int n), .d (.int d), .lst ((still.map PyData.int).map O.d)] := fun h => by
      have : (b.facts.all fun f => f.fits b n d still) = false := by
        rw [List.all_eq_false]
        exact ⟨f, hff, by simp [h]⟩
      rw [this] at k
      exact k
    have yes : f.fits b n d still = true → ∀ f' ∈ done ++ [f], f'.fits b n d still = true := fun h f' m => by
      rcases List.mem_append.mp m with m | m
      · exact hall f' m
      · rw [List.mem_singleton.mp m]; exact h
    cases f with
    | never t =>
      simp only [Fact.d, Fact.fits] at *
      bv_omega
      refine fw_so (by have := hb.asksL; omega) (by have := hfo.2.2; omega) hfo.1 ?_
      bv_omega
      refine IfK.mk (fun e => ?_) (fun e => ?_)
      · bv_omega
        exact no (by simp [e])
      · bv_omega
        exact ⟨_, _, nx, yes (by simp [e]), rfl⟩
    | makes p q v =>
      have h1 := ne_of_mem hfo.1
      have h2 := ne_of_mem hfo.2
      have h3 := hfo.1
      have h4 := hfo.2
      simp only [Fact.d, Fact.fits] at *
      bv_omega
      refine IfK.dec (fun hin => ?_) (fun hout => ?_)
      · bv_omega
        rw [bit_eq]
        refine IfK.dec (fun e => ?_) (fun e => ?_)
        · bv_omega
          exact ⟨_, _, nx, yes (by rw [decide_eq_true e, Bool.or_true]), rfl⟩
        · bv_omega
          exact no (by rw [decide_eq_true hin, decide_eq_false e]; rfl)
      · bv_omega
        exact ⟨_, _, nx, yes (by rw [decide_eq_false hout]; rfl), rfl⟩
    | _ =>
      simp only [Fact.d, Fact.fits] at *
      bv_omega
      exact ⟨_, _, nx, yes trivial, rfl⟩
/-- the sum of 2 ** k for each question k that a deed keeps -/
def keptN (b : Book) (p : Nat) : Nat := b.facts.foldl (fun s f => match f with
  | .keeps p' q => if b.deeds.idxOf p' = p then s ||| 2 ^ b.asks.idxOf q else s
  | _ => s) 0
theorem bitOr_nat (x y : Nat) : Builtin.bitOr (x : Int) (y : Int) = ((x ||| y : Nat) : Int) := by
  have hb : ∀ z : Nat, ¬ (0 : Int) ≤ Builtin.bitNot (z : Int) := fun z => by simp [Builtin.bitNot]; omega
  have hn : ∀ z : Int, Builtin.bitNot (Builtin.bitNot z) = z := fun z => by simp [Builtin.bitNot]; try omega
  show Builtin.bitNot (Builtin.bitAnd (Builtin.bitNot x) (Builtin.bitNot y)) = _
  rw [PyProof.Rows.bitAnd_nn (hb x) (hb y), hn, hn, hn]
  simp
theorem fw_kept {b : Book} (hb : b.Fit) {p : Nat} (hp : p < b.deeds.length) {A : O → List O → Prop} {B : Exn → Prop}
    (k : A (.d (.int (keptN b p : Nat))) [.d b.d, .d (.int p)]) : FW (f_law_kept [.d b.d, .d (.int p)]) A B := by
  have hf6 := hb.factsL
  have hd3 := hb.deedsL
  refine fwRun ?_
  unfold g_law_kept
  have e0 : b.d = .tuple [.tuple (b.asks.map PyData.str), .tuple (b.deeds.map PyData.str), .tuple (b.facts.map Fact.d)] := rfl
  rw [e0] at k ⊢
  bv_omega
  refine wp_forI Fact.d (fun r g => ∃ (done : List Fact) (o3 : Option O), done ++ r = b.facts ∧
    g = [some (.d b.d), some (.d (.int p)), some (.d (.int ((done.foldl (fun s f => match f with
  | .keeps p' q => if b.deeds.idxOf p' = p then s ||| 2 ^ b.asks.idxOf q else s
  | _ => s) 0 : Nat) : Int))), o3]) ?_ ?_ ⟨[], none, rfl, rfl⟩
  · rintro g ⟨done, o3, hdn, rfl⟩
    rw [List.append_nil] at hdn
    subst hdn
    bv_omega
    exact k
  · rintro f r g ⟨done, o3, hdn, rfl⟩
    have hff : f ∈ b.facts := by rw [← hdn]; simp
    have hfo := hb.factsO f hff
    have nx : done ++ [f] ++ r = b.facts := by rw [← hdn]; simp
    rw [e0]
    cases f with
    | keeps p' q =>
      have h1 := ne_of_mem hfo.2
      have h2 := hfo.2
      have h3 := List.idxOf_lt_length_of_mem h2
      have h4 := hb.asksL
      simp only [Fact.d] at *
      bv_omega
      refine ix_get (e := PyData.str) (l := b.deeds) rfl hp (by simp) ?_
      bv_omega
      refine IfK.dec (fun e => ?_) (fun e => ?_)
      · bv_omega
        have e5 : (1 : Int) * 2 ^ ((b.asks.idxOf q : Nat) : Int).toNat = ((2 ^ b.asks.idxOf q : Nat) : Int) := by simp
        rw [e5, bitOr_nat]
        refine ⟨_, some (.d (Fact.keeps p' q).d), nx, ?_⟩
        rw [List.foldl_append]
        simp only [List.foldl_cons, List.foldl_nil, (idx_get hb.deedsN hfo.1 hp).mp e, if_true]
        rfl
      · bv_omega
        refine ⟨_, some (.d (Fact.keeps p' q).d), nx, ?_⟩
        rw [List.foldl_append]
        simp only [List.foldl_cons, List.foldl_nil, if_neg (fun h => e ((idx_get hb.deedsN hfo.1 hp).mpr h))]
        rfl
    | _ =>
      simp only [Fact.d] at *
      bv_omega
      refine ⟨_, ?_, nx, ?_⟩
      rotate_left
      · rw [List.foldl_append]
        rfl
end G
namespace G
open PySem PySem.Spec L2 Z
local macro_rules | `(tactic| bv_omega) => `(tactic| repeat (first | with_reducible refine Stp.go ?_ | ((with_reducible refine Sd.mk ?_ ?_); focus (first | assumption | omega | exact Nat.zero_le _ | exact mulC_l | exact mulC_r | (simp only [List.length_cons, List.length_nil, List.length_map, List.length_append, Z.len_app]; omega) | (simp only [List.length_map, List.length_append, List.length_cons, List.length_nil, Z.intsF_len] at *; omega) | with_unfolding_all exact rfl | (refine powC_of ?_; omega) | assumption | exact List.mem_cons_self)) | with_reducible refine IfK.dt (by decide) ?_ | with_reducible refine IfK.df (by decide) ?_))
local macro_rules | `(tactic| array_get_dec) => `(tactic| repeat ((fail_if_success (with_reducible refine isJn ?_)); (first | with_reducible refine Stp.go ?_ | ((with_reducible refine Sd.mk ?_ ?_); focus (first | assumption | omega | exact Nat.zero_le _ | exact mulC_l | exact mulC_r | (simp only [List.length_cons, List.length_nil, List.length_map, List.length_append, Z.len_app]; omega) | (simp only [List.length_map, List.length_append, List.length_cons, List.length_nil, Z.intsF_len] at *; omega) | with_unfolding_all exact rfl | (refine powC_of ?_; omega) | assumption | exact List.mem_cons_self)) | with_reducible refine IfK.dt (by decide) ?_ | with_reducible refine IfK.df (by decide) ?_)))
local macro_rules | `(tactic| array_mem_dec) => `(tactic| (repeat' (first | (first | with_reducible refine Stp.go ?_ | ((with_reducible refine Sd.mk ?_ ?_); focus (first | assumption | omega | exact Nat.zero_le _ | exact mulC_l | exact mulC_r | (simp only [List.length_cons, List.length_nil, List.length_map, List.length_append, Z.len_app]; omega) | (simp only [List.length_map, List.length_append, List.length_cons, List.length_nil, Z.intsF_len] at *; omega) | with_unfolding_all exact rfl | (refine powC_of ?_; omega) | assumption | exact List.mem_cons_self)) | with_reducible refine IfK.dt (by decide) ?_ | with_reducible refine IfK.df (by decide) ?_) | refine IfK.dec (fun _ => ?_) (fun _ => ?_) | (refine CndK.mk ?_; first | rfl | (simp [*]; done) | (simp; omega) | (simp at *; done) | (simp at *; simp [*]; done) | (simp at *; omega)))))
local macro_rules | `(tactic| sizeOf_list_dec) => `(tactic| repeat ((fail_if_success (first | with_reducible refine isLc ?_ | with_reducible refine isFor ?_)); (first | with_reducible refine Stp.go ?_ | ((with_reducible refine Sd.mk ?_ ?_); focus (first | assumption | omega | exact Nat.zero_le _ | exact mulC_l | exact mulC_r | (simp only [List.length_cons, List.length_nil, List.length_map, List.length_append, Z.len_app]; omega) | (simp only [List.length_map, List.length_append, List.length_cons, List.length_nil, Z.intsF_len] at *; omega) | with_unfolding_all exact rfl | (refine powC_of ?_; omega) | assumption | exact List.mem_cons_self)) | with_reducible refine IfK.dt (by decide) ?_ | with_reducible refine IfK.df (by decide) ?_)))
open Classical in
/-- the deeds that do something at (n, d), rising -/
noncomputable def acts (b : Book) (s : Int × Int) : List Nat := (List.range b.deeds.length).filter fun p => decide (¬ Rst b s.1 s.2 p)
open Classical in
/-- whether a state fits -/
noncomputable def fitP (b : Book) (s : Int × Int) : Bool := b.facts.all fun f => match f with
  | .never t => !t.so b.asks s.1
  | .makes p q v => !decide ((b.deeds.idxOf p : Int) = s.2 ∨ Rst b s.1 s.2 (b.deeds.idxOf p)) || decide (bitI s.1 (b.asks.idxOf q) = v)
  | _ => true
noncomputable def rowS (b : Book) (n : Nat) (j : Nat) : List (Int × Int) := ((List.range j).map fun (i : Nat) => ((n : Int), (i : Int) - 1)).filter (fitP b)
/-- the states that fit, in their order -/
noncomputable def states0 (b : Book) : List (Int × Int) := (List.range (2 ^ b.asks.length)).flatMap fun n => rowS b n (b.deeds.length + 1)
/-- whether answers m are alike n where p keeps -/
def okM (b : Book) (n m : Int) (p : Nat) : Bool := decide (Builtin.bitAnd (Builtin.bitXor m n) (keptN b p : Nat) = 0)
def nxt (b : Book) (left : List (Int × Int)) (n : Int) (p : Nat) : List Int := ((List.range (2 ^ b.asks.length)).map fun (m : Nat) => 0 + (m : Int)).filter fun m => decide ((m, (p : Int)) ∈ left) && okM b n m p
noncomputable def roundS (b : Book) (left : List (Int × Int)) : List (Int × Int) := left.filter fun s => (acts b s).all fun p => !(nxt b left s.1 p).isEmpty
noncomputable def mkD (b : Book) (l : List (Int × Int)) : List (List Key × PyData) := l.map fun s => (kk [s.1, s.2], .list ((acts b s).map fun (p : Nat) => .int p))
noncomputable def stepsD (b : Book) (left : List (Int × Int)) (s : Int × Int) : List PyData := (acts b s).flatMap fun p => (nxt b left s.1 p).map fun m => .tuple [.int p, .int m]
noncomputable def foundD (b : Book) (left l : List (Int × Int)) : List (List Key × PyData) := l.map fun s => (kk [s.1, s.2], .list (stepsD b left s))
abbrev mkO (l : List (List Key × PyData)) : O := .dT (l.map fun p => (p.1, O.d p.2))
theorem kk_inj {s t : Int × Int} : kk [s.1, s.2] = kk [t.1, t.2] ↔ s = t := by
  obtain ⟨a, c⟩ := s
  obtain ⟨x, y⟩ := t
  simp [kk]
theorem at_map {α : Type} (f : Int × Int → α) (l : List (Int × Int)) (s : Int × Int) : atT (l.map fun s => (kk [s.1, s.2], f s)) (kk [s.1, s.2]) = if s ∈ l then some (f s) else none := by
  induction l with
  | nil => simp [atT]
  | cons t r ih =>
    unfold atT at ih ⊢
    simp only [List.map_cons, List.find?_cons]
    by_cases e : t = s
    · subst e; simp
    · have e' : ¬ kk [t.1, t.2] = kk [s.1, s.2] := fun z => e (kk_inj.mp z)
      have e2 : ¬ s = t := fun z => e z.symm
      simp only [e', decide_false, List.mem_cons, e2, false_or]
      exact ih
open Classical in
theorem fits_eq {b : Book} {n d : Int} {xs : List Nat} (h : ∀ x, x ∈ xs ↔ Rst b n d x) : (b.facts.all fun f => f.fits b n d (srtS (xs.map fun (x : Nat) => (x : Int)))) = fitP b (n, d) := by
  unfold fitP
  congr 1
  funext f
  cases f with
  | makes p q v =>
    simp only [Fact.fits]
    have : (b.deeds.idxOf p : Int) ∈ d :: srtS (xs.map fun (x : Nat) => (x : Int)) ↔ ((b.deeds.idxOf p : Int) = d ∨ Rst b n d (b.deeds.idxOf p)) := by
      rw [List.mem_cons, mem_srtS, ← h]
      constructor
      · rintro (h | h)
        · exact .inl h
        · obtain ⟨x, hx, e⟩ := List.mem_map.mp h
          have : x = b.deeds.idxOf p := by omega
          exact .inr (this ▸ hx)
      · rintro (h | h)
        · exact .inl h
        · exact .inr (List.mem_map.mpr ⟨_, h, rfl⟩)
    by_cases hc : (b.deeds.idxOf p : Int) ∈ d :: srtS (xs.map fun (x : Nat) => (x : Int))
    · rw [decide_eq_true hc, decide_eq_true (this.mp hc)]
    · rw [decide_eq_false hc, decide_eq_false (fun h => hc (this.mpr h))]
  | _ => rfl
open Classical in
theorem acts_eq {b : Book} {n d : Int} {xs : List Nat} (h : ∀ x, x ∈ xs ↔ Rst b n d x) : (((List.range b.deeds.length).map fun (p : Nat) => 0 + (p : Int)).filter fun i => !decide (i ∈ srtS (xs.map fun (x : Nat) => (x : Int)))) = (acts b (n, d)).map fun (p : Nat) => (p : Int) := by
  unfold acts
  rw [List.filter_map]
  have e : ((fun (i : Int) => !decide (i ∈ srtS (xs.map fun (x : Nat) => (x : Int)))) ∘ fun (p : Nat) => 0 + (p : Int)) = fun p => decide (¬ Rst b n d p) := by
    funext p
    have : (0 + (p : Int)) ∈ srtS (xs.map fun (x : Nat) => (x : Int)) ↔ Rst b n d p := by
      rw [mem_srtS, ← h]
      constructor
      · intro h
        obtain ⟨x, hx, e⟩ := List.mem_map.mp h
        have : x = p := by omega
        exact this ▸ hx
      · intro h
        exact List.mem_map.mpr ⟨_, h, by omega⟩
    show (!decide (0 + (p : Int) ∈ srtS (xs.map fun (x : Nat) => (x : Int)))) = decide (¬ Rst b n d p)
    by_cases hc : Rst b n d p
    · rw [decide_eq_true (this.mpr hc), decide_eq_false (fun h => h hc)]; rfl
    · rw [decide_eq_false (fun h => hc (this.mp h)), decide_eq_true hc]; rfl
  rw [e]
  refine List.map_congr_left fun p _ => ?_
  omega
theorem mkO_sn (a : List (List Key × PyData)) (k : List Key) (x : PyData) : mkO (a ++ [(k, x)]) = .dT ((a.map fun p => (p.1, O.d p.2)) ++ [(k, O.d x)]) := by simp [mkO]
theorem fresh_of {b : Book} {l : List (Int × Int)} {n d : Int} (h : (n, d) ∉ l) : (atT ((mkD b l).map fun p => (p.1, O.d p.2)) (kk [n, d])).isNone = true := by
  rw [atT_dt]
  have := at_map (fun s => PyData.list ((acts b s).map fun (p : Nat) => .int p)) l (n, d)
  unfold mkD
  rw [this, if_neg h]
  rfl
theorem rowS_succ (b : Book) (n j : Nat) : rowS b n (j + 1) = rowS b n j ++ (if fitP b ((n : Int), (j : Int) - 1) = true then [((n : Int), (j : Int) - 1)] else []) := by
  unfold rowS
  rw [List.range_succ, List.map_append, List.filter_append]
  simp [List.filter_cons]
theorem mem_rowS {b : Book} {n j : Nat} {s : Int × Int} (h : s ∈ rowS b n j) : s.1 = n ∧ -1 ≤ s.2 ∧ s.2 < (j : Int) - 1 := by
  have := (List.mem_filter.mp h).1
  obtain ⟨i, hi, rfl⟩ := List.mem_map.mp this
  have := List.mem_range.mp hi
  exact ⟨rfl, by simp; omega, by simp; omega⟩
theorem len_rowS (b : Book) (n j : Nat) : (rowS b n j).length ≤ j := by
  unfold rowS
  refine Nat.le_trans (List.length_filter_le _ _) ?_
  simp
theorem len_states (b : Book) (n j : Nat) : ((List.range n).flatMap fun n => rowS b n j).length ≤ n * j := by
  induction n with
  | zero => simp
  | succ n ih =>
    rw [List.range_succ, List.flatMap_append, List.length_append]
    simp only [List.flatMap_cons, List.flatMap_nil, List.append_nil]
    have := len_rowS b n j
    rw [Nat.add_mul]
    omega
theorem states_lt {b : Book} (hb : b.Fit) : 2 ^ b.asks.length ≤ 8 := by
  have := hb.asksL
  rcases Nat.lt_or_ge b.asks.length 1 with h | h
  · have : b.asks.length = 0 := by omega
    rw [this]; decide
  rcases Nat.lt_or_ge b.asks.length 2 with h | h
  · have : b.asks.length = 1 := by omega
    rw [this]; decide
  rcases Nat.lt_or_ge b.asks.length 3 with h | h
  · have : b.asks.length = 2 := by omega
    rw [this]; decide
  · have : b.asks.length = 3 := by omega
    rw [this]; decide
instance flMF {ι : Type} {h : ι → PyData} {l : List ι} : FzL (l.map fun x => O.d (h x)) (l.map h) := ⟨by
  have := fzLd (l.map h)
  rwa [List.map_map] at this⟩
theorem len_insS (x : Int) : ∀ l : List Int, (insS x l).length ≤ l.length + 1
  | [] => by simp [insS]
  | y :: r => by
    have := len_insS x r
    unfold insS
    split
    · simp
    · split <;> simp <;> omega
theorem len_srtS : ∀ (l : List Int), (srtS l).length ≤ l.length
  | [] => by simp [srtS]
  | x :: r => by
    have h1 := len_srtS r
    have h2 := len_insS x (srtS r)
    show (insS x (srtS r)).length ≤ _
    simp only [List.length_cons]
    omega
noncomputable def keptO (b : Book) : O := .lst ((List.range b.deeds.length).map fun p => .d (.int (keptN b p : Nat)))
def stD (s : Int × Int) : PyData := .tuple [.int s.1, .int s.2]
/-- every set of states that keeps itself lies in l -/
def Gst (b : Book) (l : List (Int × Int)) : Prop := ∀ S : List (Int × Int), (∀ s ∈ S, s ∈ states0 b) → (∀ s ∈ S, s ∈ roundS b S) → ∀ s ∈ S, s ∈ l
noncomputable def lostL (b : Book) (l r : List (Int × Int)) : List (Int × Int) := r.flatMap fun s => ((acts b s).filter fun p => (nxt b l s.1 p).isEmpty).map fun _ => s
theorem kI_mkD (b : Book) (l : List (Int × Int)) : ((mkD b l).all fun p => p.1.all kI) = true := by
  unfold mkD
  simp [List.all_eq_true, kk, kI]
theorem walk_mkD (b : Book) (l : List (Int × Int)) : (mkD b l).map (fun p => tupD p.1) = l.map stD := by
  unfold mkD
  simp [kk, stD, tupD, kD]
instance o_some {α : Type} {x : α} {A : α → Prop} : Stp (optW (some x) A) (A x) := ⟨id⟩
theorem at_mkD {b : Book} {l : List (Int × Int)} {n d : Int} (h : (n, d) ∈ l) : atT (mkD b l) (kk [n, d]) = some (.list ((acts b (n, d)).map fun (p : Nat) => .int p)) := by
  have := at_map (fun s => PyData.list ((acts b s).map fun (p : Nat) => .int p)) l (n, d)
  unfold mkD
  rw [this, if_pos h]
theorem lostL_sn (b : Book) (l done : List (Int × Int)) (s : Int × Int) : lostL b l (done ++ [s]) = lostL b l done ++ ((acts b s).filter fun p => (nxt b l s.1 p).isEmpty).map fun _ => s := by
  simp [lostL]
theorem acts_lt {b : Book} {s : Int × Int} {p : Nat} (h : p ∈ acts b s) : p < b.deeds.length := List.mem_range.mp (List.mem_filter.mp h).1
theorem isS_mkD (b : Book) (l : List (Int × Int)) (n d : Int) : (atT (mkD b l) (kk [n, d])).isSome = decide ((n, d) ∈ l) := by
  have := at_map (fun s => PyData.list ((acts b s).map fun (p : Nat) => .int p)) l (n, d)
  unfold mkD
  rw [this]
  by_cases h : (n, d) ∈ l
  · rw [if_pos h]; simp [h]
  · rw [if_neg h]; simp [h]
theorem eNx {N : Nat} {b : Book} (hN : 2 ^ b.asks.length = N) (l : List (Int × Int)) (n : Int) (p : Nat) : [] ++ List.map (fun m => O.d (PyData.int m)) (List.filter (fun m => decide ((m, (p : Int)) ∈ l) && okM b n m p) (List.map (fun (i : Nat) => 0 + (i : Int)) (List.range ((N : Int)).toNat))) = (nxt b l n p).map fun m => O.d (.int m) := by
  unfold nxt
  rw [hN, Int.toNat_natCast, List.nil_append]
theorem ix_kept {b : Book} {p : Nat} (h : p < b.deeds.length) {A : O → Prop} (k : A (.d (.int (keptN b p : Nat)))) : optW (ixF [keptO b, .d (.int (p : Int))]) A := by
  have e : keptO b = .lst (((List.range b.deeds.length).map fun p => PyData.int (keptN b p : Nat)).map O.d) := by
    unfold keptO
    simp [List.map_map, Function.comp_def]
  rw [e]
  refine ix_get (e := id) (l := (List.range b.deeds.length).map fun p => PyData.int (keptN b p : Nat)) (i := p) (by rw [List.map_id]; exact asLT_d (allD_map _)) (by simp [h]) (by simp) ?_
  simpa using k
theorem len_acts (b : Book) (s : Int × Int) : (acts b s).length ≤ b.deeds.length := by
  unfold acts
  refine Nat.le_trans (List.length_filter_le _ _) ?_
  simp
theorem len_lostL {b : Book} (h3 : b.deeds.length ≤ 3) (l : List (Int × Int)) : ∀ r : List (Int × Int), (lostL b l r).length ≤ 3 * r.length
  | [] => by simp [lostL]
  | s :: r => by
    have h1 := len_lostL h3 l r
    have h2 := len_acts b s
    have h4 := List.length_filter_le (fun p => (nxt b l s.1 p).isEmpty) (acts b s)
    unfold lostL at h1 ⊢
    simp only [List.flatMap_cons, List.length_append, List.length_map, List.length_cons]
    omega
theorem sh_stD (s : Int × Int) : Sh 2 (stD s) := Sh.tup fun x hx => by
  simp only [List.mem_cons, List.not_mem_nil, or_false] at hx
  rcases hx with rfl | rfl <;> exact Sh.int
theorem eqv_stD (s t : Int × Int) : PyData.eqv (stD s) (stD t) = decide (s = t) := by
  obtain ⟨a, c⟩ := s
  obtain ⟨x, y⟩ := t
  have : PyData.eqv (stD (a, c)) (stD (x, y)) = PyData.eqvAll ([a, c].map PyData.int) ([x, y].map PyData.int) := rfl
  rw [this, eqvInts]
  simp
theorem any_stD (l : List (Int × Int)) (n d : Int) : ((l.map stD).any fun z => PyData.eqv z (.tuple [.int n, .int d])) = decide ((n, d) ∈ l) := by
  have : ∀ z, PyData.eqv (stD z) (.tuple [.int n, .int d]) = decide (z = (n, d)) := fun z => eqv_stD z (n, d)
  induction l with
  | nil => simp
  | cons x r ih =>
    rw [List.map_cons, List.any_cons, ih, this]
    by_cases h : x = (n, d)
    · simp [h]
    · have h' : ¬ (n, d) = x := fun e => h e.symm
      simp [h, h']
theorem mem_lostL {b : Book} {l r : List (Int × Int)} {s : Int × Int} : s ∈ lostL b l r ↔ s ∈ r ∧ ((acts b s).all fun p => !(nxt b l s.1 p).isEmpty) = false := by
  unfold lostL
  rw [List.mem_flatMap]
  constructor
  · rintro ⟨t, ht, h⟩
    obtain ⟨p, hp, rfl⟩ := List.mem_map.mp h
    obtain ⟨h1, h2⟩ := List.mem_filter.mp hp
    refine ⟨ht, ?_⟩
    rw [Bool.eq_false_iff]
    intro h
    have := List.all_eq_true.mp h p h1
    rw [h2] at this
    cases this
  · rintro ⟨h, e⟩
    rw [List.all_eq_false] at e
    obtain ⟨p, hp, e⟩ := e
    exact ⟨s, h, List.mem_map.mpr ⟨p, List.mem_filter.mpr ⟨hp, by simpa using e⟩, rfl⟩⟩
theorem fl_lost (b : Book) (l : List (Int × Int)) : l.filter (fun s => !decide (s ∈ lostL b l l)) = roundS b l := by
  unfold roundS
  refine List.filter_congr fun s hs => ?_
  cases e : (acts b s).all fun p => !(nxt b l s.1 p).isEmpty with
  | false => simp [mem_lostL.mpr ⟨hs, e⟩]
  | true =>
    have : ¬ s ∈ lostL b l l := fun h => by rw [(mem_lostL.mp h).2] at e; cases e
    simp [this]
theorem pairs_mkD (b : Book) : ∀ l : List (Int × Int), pairsOf (l.map fun s => .tuple [stD s, .list ((acts b s).map fun (p : Nat) => .int p)]) = some (mkD b l)
  | [] => rfl
  | s :: r => by
    have ih := pairs_mkD b r
    rw [List.map_cons]
    show (match intsOf [.int s.1, .int s.2], pairsOf _ with
      | some is, some t => some ((kk is, _) :: t)
      | _, _ => none) = _
    rw [ih]
    rfl
theorem asL_map {ι : Type} (f : ι → PyData) (l : List ι) : asL (.lst (l.map fun s => .d (f s))) = some (l.map f) := by
  have := allD_map (l.map f)
  rw [List.map_map] at this
  exact this
theorem round_sub (b : Book) (l : List (Int × Int)) : (roundS b l).Sublist l := List.filter_sublist
theorem nxt_mono {b : Book} {S l : List (Int × Int)} (h : ∀ s ∈ S, s ∈ l) {n : Int} {p : Nat} (e : (nxt b S n p).isEmpty = false) : (nxt b l n p).isEmpty = false := by
  rw [List.isEmpty_eq_false_iff_exists_mem] at e ⊢
  obtain ⟨m, hm⟩ := e
  obtain ⟨h1, h2⟩ := List.mem_filter.mp hm
  refine ⟨m, List.mem_filter.mpr ⟨h1, ?_⟩⟩
  simp only [Bool.and_eq_true, decide_eq_true_eq] at h2 ⊢
  exact ⟨h _ h2.1, h2.2⟩
theorem Gst.round {b : Book} {l : List (Int × Int)} (h : Gst b l) : Gst b (roundS b l) := by
  intro S h1 h2 s hs
  have hSl := h S h1 h2
  refine List.mem_filter.mpr ⟨hSl s hs, ?_⟩
  have := (List.mem_filter.mp (h2 s hs)).2
  rw [List.all_eq_true] at this ⊢
  intro p hp
  have := this p hp
  simp only [Bool.not_eq_true'] at this ⊢
  exact nxt_mono hSl this
theorem nd_rowS (b : Book) (n j : Nat) : (rowS b n j).Nodup := by
  unfold rowS
  refine List.Nodup.sublist List.filter_sublist ?_
  refine List.pairwise_map.mpr (List.Pairwise.imp ?_ (List.nodup_range (n := j)))
  intro a c h e
  simp only [Prod.mk.injEq] at e
  omega
theorem nd_states0 (b : Book) : (states0 b).Nodup := by
  unfold states0
  refine List.pairwise_flatMap.mpr ⟨fun n _ => nd_rowS b n _, ?_⟩
  refine List.Pairwise.imp ?_ (List.nodup_range (n := 2 ^ b.asks.length))
  intro a c h x hx y hy e
  have h1 := (mem_rowS hx).1
  have h2 := (mem_rowS hy).1
  rw [e] at h1
  omega
theorem nd_mkD {b : Book} {l : List (Int × Int)} (h : l.Nodup) : ((mkD b l).map (·.1)).Nodup := by
  unfold mkD
  rw [List.map_map]
  exact List.pairwise_map.mpr (List.Pairwise.imp (fun h e => h (kk_inj.mp e)) h)
theorem round_fix {b : Book} {l : List (Int × Int)} (e : lostL b l l = []) : roundS b l = l := by
  have := fl_lost b l
  rw [← this, e]
  exact List.filter_eq_self.mpr fun s _ => by simp
theorem fresh_found {b : Book} {left l : List (Int × Int)} {n d : Int} (h : (n, d) ∉ l) : (atT ((foundD b left l).map fun p => (p.1, O.d p.2)) (kk [n, d])).isNone = true := by
  rw [atT_dt]
  have := at_map (fun s => PyData.list (stepsD b left s)) l (n, d)
  unfold foundD
  rw [this, if_neg h]
  rfl
theorem len_nxt (b : Book) (l : List (Int × Int)) (n : Int) (p : Nat) : (nxt b l n p).length ≤ 2 ^ b.asks.length := by
  unfold nxt
  refine Nat.le_trans (List.length_filter_le _ _) ?_
  simp
theorem len_fl {α β : Type} (f : α → List β) (m : Nat) (h : ∀ x, (f x).length ≤ m) : ∀ l : List α, (l.flatMap f).length ≤ m * l.length
  | [] => by simp
  | x :: r => by
    have := len_fl f m h r
    have := h x
    simp only [List.flatMap_cons, List.length_append, List.length_cons]
    rw [Nat.mul_succ]
    omega
theorem fw_live {b : Book} (hb : b.Fit) {A : O → List O → Prop} {B : Exn → Prop}
    (k : ∀ left : List (Int × Int), left.Sublist (states0 b) → roundS b left = left → (∀ S : List (Int × Int), (∀ s ∈ S, s ∈ states0 b) → (∀ s ∈ S, s ∈ roundS b S) → ∀ s ∈ S, s ∈ left) → A (mkO (foundD b left left)) [.d b.d]) :
    FW (f_law_live [.d b.d]) A B := by
  have hf6 := hb.factsL
  have hd3 := hb.deedsL
  have hq3 := hb.asksL
  have hq8 := states_lt hb
  obtain ⟨N, hN⟩ : ∃ N, 2 ^ b.asks.length = N := ⟨_, rfl⟩
  have ep : (1 : Int) * 2 ^ ((b.asks.length : Nat) : Int).toNat = (N : Int) := by rw [← hN]; simp
  rw [hN] at hq8
  refine fwRun ?_
  unfold g_law_live
  bv_omega
  rw [List.length_map, ep]
  bv_omega
  refine wp_forN (fun i g => ∃ (o2 o3 o4 o7 : Option O), g = [some (.d b.d), some (mkO (mkD b ((List.range i.toNat).flatMap fun n => rowS b n (b.deeds.length + 1)))), o2, o3, o4, none, none, o7, none, none, none, none, none]) ?_ ?_ ⟨none, none, none, none, rfl⟩
  · intro g h
    obtain ⟨o2, o3, o4, o7, e⟩ := h
    subst e
    bv_omega
    rw [intsF_map]
    refine wp_lcF PyData.int (fun p => .d (.int (keptN b p.toNat : Nat))) (fun i hi => ?_) ?_
    · obtain ⟨p, hp, rfl⟩ := List.mem_map.mp hi
      have hp := List.mem_range.mp hp
      simp only [List.length_map, Int.toNat_natCast] at hp
      bv_omega
      rw [Int.zero_add]
      refine fw_kept hb hp ?_
      bv_omega
      rw [Int.toNat_natCast]
      bv_omega
      trivial
    · bv_omega
      have eS : (List.range (0 + ((N : Int).toNat : Int)).toNat).flatMap (fun n => rowS b n (b.deeds.length + 1)) = states0 b := by
        unfold states0
        rw [hN]
        simp
      rw [eS]
      bv_omega
      have eK : O.lst ([] ++ List.map (fun p : Int => O.d (PyData.int ((keptN b p.toNat : Nat) : Int))) (List.map (fun (i : Nat) => 0 + (i : Int)) (List.range (((b.deeds.map PyData.str).length : Nat) : Int).toNat))) = keptO b := by
        unfold keptO
        simp [List.map_map, Function.comp_def]
      rw [eK]
      have hS := len_states b N (b.deeds.length + 1)
      have hS2 : (states0 b).length ≤ 32 := by
        have : N * (b.deeds.length + 1) ≤ 8 * 4 := Nat.mul_le_mul (by omega) (by omega)
        unfold states0
        rw [hN]
        omega
      refine wp_whI (fun j g => ∃ (l : List (Int × Int)) (ds : List PyData) (o2 o3 o4 o7 o8 o9 o10 o11 o12 : Option O), g = [some (.d b.d), some (mkO (mkD b l)), o2, o3, o4, some (keptO b), some (.lst (ds.map O.d)), o7, none, none, none, none, none] ∧ l.Sublist (states0 b) ∧ Gst b l ∧ (ds = [] → roundS b l = l) ∧ SeqAt.shaped (.list ds) = true ∧ j = l.length + (if ds = [] then 0 else 1)) ?_ (k := (states0 b).length + 1) (by omega) ?_
      · rintro j g ⟨l, ds, o2, o3, o4, o7, o8, o9, o10, o11, o12, rfl, hl, hG, hds, hsh, hj⟩
        bv_omega
        refine Sd.mk ⟨hsh, by decide⟩ ?_
        bv_omega
        have eE : (PyData.list ds).eqv (PyData.list []) = decide (ds = []) := by
          cases ds with
          | nil => decide
          | cons x r => simp [PyData.eqv, PyData.eqvAll]
        rw [eE]
        refine IfK.mk (fun hne => ?_) (fun hne => ?_)
        · have he : ds = [] := by simpa using hne
          subst he
          have hR := hds rfl
          bv_omega
          refine wp_itDT (by rfl) (kI_mkD b l) ?_
          rw [walk_mkD]
          simp only [List.set_cons_succ, List.set_cons_zero]
          have hl3 := hl.length_le
          have hnd := (nd_states0 b).sublist hl
          refine wp_forI stD (fun r g => ∃ (done : List (Int × Int)) (o2 o3 o7 o9 o10 : Option O), done ++ r = l ∧ g = [some (.d b.d), some (.gD (mkD b l)), o2, o3, o4, some (keptO b), some (.lst []), o7, some (mkO (foundD b l done)), o9, o10, none, none]) ?_ ?_ ⟨[], _, _, _, none, none, rfl, rfl⟩
          · rintro g ⟨done, o2, o3, o7, o9, o10, hd, rfl⟩
            rw [List.append_nil] at hd
            subst hd
            bv_omega
            exact k done hl hR hG
          · rintro ⟨n, d⟩ r g ⟨done, o2, o3, o7, o9, o10, hd, rfl⟩
            have hm : (n, d) ∈ l := hd ▸ by simp
            rw [show stD (n, d) = .tuple [.int n, .int d] from rfl]
            bv_omega
            rw [at_mkD hm]
            bv_omega
            refine wp_forI (fun (p : Nat) => .int p) (fun r g => ∃ (dn : List Nat) (o7 o9 o10 : Option O), dn ++ r = acts b (n, d) ∧ o9 = some (.lst ((dn.flatMap fun p => (nxt b l n p).map fun m => PyData.tuple [.int p, .int m]).map O.d)) ∧ g = [some (.d b.d), some (.gD (mkD b l)), some (.d (.int n)), some (.d (.int d)), o4, some (keptO b), some (.lst []), o7, some (mkO (foundD b l done)), o9, o10, none, none]) ?_ ?_ ⟨[], _, _, _, rfl, rfl, rfl⟩
            · rintro g ⟨dn, o7, o9, o10, hdn, rfl, rfl⟩
              rw [List.append_nil] at hdn
              bv_omega
              have hnew : (n, d) ∉ done := fun h => by
                rw [← hd] at hnd
                have := (List.nodup_append.mp hnd).2.2 (n, d) h (n, d) (by simp)
                exact this rfl
              refine Sd.mk (fresh_found hnew) ?_
              have b3 : done.length + (r.length + 1) = l.length := by rw [← hd]; simp
              refine Sd.mk (by simp only [foundD, List.length_map]; omega) ?_
              refine ⟨done ++ [(n, d)], some (.d (.int n)), some (.d (.int d)), o7, some (.d (.list (stepsD b l (n, d)))), o10, by rw [List.append_assoc]; exact hd, ?_⟩
              rw [hdn]
              have e9 : foundD b l (done ++ [(n, d)]) = foundD b l done ++ [(kk [n, d], .list (stepsD b l (n, d)))] := by simp [foundD]
              rw [e9, mkO_sn]
              rfl
            · rintro p rr g ⟨dn, o7, o9, o10, hdn, rfl, rfl⟩
              have hpA : p ∈ acts b (n, d) := hdn ▸ by simp
              have hpD := acts_lt hpA
              bv_omega
              rw [List.length_map, ep]
              bv_omega
              rw [intsF_map]
              refine wp_lcT PyData.int (fun m => decide ((m, (p : Int)) ∈ l) && okM b n m p) (fun m => .d (.int m)) (fun m hm => ?_) ?_
              · bv_omega
                rw [isS_mkD]
                refine IfK.mk (fun hi => ?_) (fun hi => ?_)
                · bv_omega
                  refine ix_kept hpD ?_
                  bv_omega
                  rw [hi, Bool.true_and]
                  refine ⟨rfl, ?_⟩
                  refine IfK.mk (fun _ => ?_) (fun _ => ?_)
                  · bv_omega
                    trivial
                  · bv_omega
                    trivial
                · rw [hi]
                  bv_omega
                  refine ⟨rfl, ?_⟩
                  rw [Bool.false_and]
                  bv_omega
                  trivial
              · rw [eNx hN l n p]
                bv_omega
                have hx8 := len_nxt b l n p
                rw [hN] at hx8
                refine Sd.mk (by rw [List.length_map]; omega) ?_
                bv_omega
                refine wp_lcF PyData.int (fun m => .d (.tuple [.int p, .int m])) (fun i hi => ?_) ?_
                · bv_omega
                  trivial
                · rw [List.nil_append]
                  bv_omega
                  have b4 := len_acts b (n, d)
                  have b5 : dn.length + (rr.length + 1) = (acts b (n, d)).length := by rw [← hdn]; simp
                  have b6 := len_fl (fun p => (nxt b l n p).map fun m => PyData.tuple [.int p, .int m]) 8 (fun p => by rw [List.length_map]; have := len_nxt b l n p; omega) dn
                  refine Sd.mk (by rw [List.length_map (as := nxt b l n p)]; omega) ?_
                  bv_omega
                  refine ⟨dn ++ [p], some (.d (.int p)), _, _, by rw [List.append_assoc]; exact hdn, ?_, rfl⟩
                  rw [List.flatMap_append]
                  simp
        · have hne' : ds ≠ [] := by simpa using hne
          rw [if_neg hne'] at hj
          bv_omega
          refine wp_itDT (by rfl) (kI_mkD b l) ?_
          rw [walk_mkD]
          simp only [List.set_cons_succ, List.set_cons_zero]
          bv_omega
          refine wp_forI stD (fun r g => ∃ (done : List (Int × Int)) (o2 o3 o7 : Option O), done ++ r = l ∧ g = [some (.d b.d), some (.gD (mkD b l)), o2, o3, o4, some (keptO b), some (.lst ((lostL b l done).map fun s => .d (stD s))), o7, none, none, none, none, none]) ?_ ?_ ⟨[], _, _, _, rfl, rfl⟩
          · rintro g ⟨done, o2, o3, o7, hd, rfl⟩
            rw [List.append_nil] at hd
            subst hd
            bv_omega
            refine wp_itGD (by rfl) (kI_mkD b _) ?_
            rw [walk_mkD]
            bv_omega
            refine Sd.mk (by rw [List.length_map]; have := hl.length_le; omega) ?_
            bv_omega
            refine wp_lcT stD (fun s => !decide (s ∈ lostL b done done)) (fun s => .d (.tuple [stD s, .list ((acts b s).map fun (p : Nat) => .int p)])) (fun s hs => ?_) ?_
            · obtain ⟨n, d⟩ := s
              rw [show stD (n, d) = .tuple [.int n, .int d] from rfl]
              bv_omega
              refine Sd.mk ⟨(sh_stD (n, d)).shaped (by decide), (Sh.lst (d := 2) fun x hx => by obtain ⟨i, _, rfl⟩ := List.mem_map.mp hx; exact sh_stD _).shaped (by decide)⟩ ?_
              rw [any_stD]
              bv_omega
              refine ⟨rfl, ?_⟩
              refine IfK.mk (fun hx => ?_) (fun hx => ?_)
              · bv_omega
                rw [at_mkD hs]
                bv_omega
                trivial
              · bv_omega
                trivial
            · rw [List.nil_append, fl_lost]
              bv_omega
              refine wp_dict (ds := (roundS b done).map fun s => .tuple [stD s, .list ((acts b s).map fun (p : Nat) => .int p)]) (kds := mkD b (roundS b done)) (asL_map _ _) (pairs_mkD b _) (nd_mkD ((nd_states0 b).sublist ((List.filter_sublist).trans hl))) ?_
              bv_omega
              refine ⟨_, ?_, roundS b done, (lostL b done done).map stD, _, _, _, _, none, none, none, none, none, by rw [List.map_map]; rfl, (round_sub b done).trans hl, hG.round, ?_, ?_, rfl⟩
              · rw [hj]
                have c1 := (round_sub b done).length_le
                by_cases e : (lostL b done done).map stD = []
                · rw [if_pos e]; omega
                · rw [if_neg e]
                  have : (roundS b done).length ≠ done.length := fun e2 => e (by
                    rw [List.map_eq_nil_iff, List.eq_nil_iff_forall_not_mem]
                    intro s hs
                    have h1 := mem_lostL.mp hs
                    have e3 := (round_sub b done).eq_of_length e2
                    have h2 : s ∈ roundS b done := by rw [e3]; exact h1.1
                    have := (List.mem_filter.mp h2).2
                    rw [h1.2] at this
                    cases this)
                  omega
              · intro e
                rw [List.map_eq_nil_iff] at e
                have := round_fix e
                rw [this, this]
              · exact (Sh.lst (d := 2) fun x hx => by obtain ⟨i, _, rfl⟩ := List.mem_map.mp hx; exact sh_stD _).shaped (by decide)
          · rintro ⟨n, d⟩ r g ⟨done, o2, o3, o7, hd, rfl⟩
            have hm : (n, d) ∈ l := hd ▸ by simp
            rw [show stD (n, d) = .tuple [.int n, .int d] from rfl]
            bv_omega
            rw [at_mkD hm]
            bv_omega
            refine wp_forI (fun (p : Nat) => .int p) (fun r g => ∃ (dn : List Nat) (o7 : Option O), dn ++ r = acts b (n, d) ∧ g = [some (.d b.d), some (.gD (mkD b l)), some (.d (.int n)), some (.d (.int d)), o4, some (keptO b), some (.lst ((lostL b l done ++ (dn.filter fun p => (nxt b l n p).isEmpty).map fun _ => (n, d)).map fun s => .d (stD s))), o7, none, none, none, none, none]) ?_ ?_ ⟨[], _, rfl, by simp; rfl⟩
            · rintro g ⟨dn, o7, hdn, rfl⟩
              rw [List.append_nil] at hdn
              bv_omega
              refine ⟨done ++ [(n, d)], some (.d (.int n)), some (.d (.int d)), o7, by rw [List.append_assoc]; exact hd, ?_⟩
              rw [lostL_sn, hdn]
            · rintro p rr g ⟨dn, o7, hdn, rfl⟩
              have hpA : p ∈ acts b (n, d) := hdn ▸ by simp
              have hpD := acts_lt hpA
              bv_omega
              rw [List.length_map, ep]
              bv_omega
              rw [intsF_map]
              refine wp_lcT PyData.int (fun m => decide ((m, (p : Int)) ∈ l) && okM b n m p) (fun m => .d (.int m)) (fun m hm => ?_) ?_
              · bv_omega
                rw [isS_mkD]
                refine IfK.mk (fun hi => ?_) (fun hi => ?_)
                · bv_omega
                  refine ix_kept hpD ?_
                  bv_omega
                  have eo : PyData.eqv (.int (Builtin.bitAnd (Builtin.bitXor m n) (keptN b p : Nat))) (.int 0) = okM b n m p := eqv_int
                  rw [hi, Bool.true_and]
                  refine ⟨rfl, ?_⟩
                  refine IfK.mk (fun _ => ?_) (fun _ => ?_)
                  · bv_omega
                    trivial
                  · bv_omega
                    trivial
                · rw [hi]
                  bv_omega
                  refine ⟨rfl, ?_⟩
                  rw [Bool.false_and]
                  bv_omega
                  trivial
              · bv_omega
                rw [eNx hN l n p]
                bv_omega
                refine Sd.mk ⟨(Sh.lst (d := 1) fun x hx => by obtain ⟨i, _, rfl⟩ := List.mem_map.mp hx; exact .int).shaped (by decide), by decide⟩ ?_
                bv_omega
                have eE : (PyData.list ((nxt b l n p).map PyData.int)).eqv (.list []) = (nxt b l n p).isEmpty := by
                  cases nxt b l n p with
                  | nil => decide
                  | cons x r => simp [PyData.eqv, PyData.eqvAll]
                rw [eE]
                refine IfK.mk (fun hx => ?_) (fun hx => ?_)
                · bv_omega
                  have b1 := len_lostL hd3 l done
                  have b2 := hl.length_le
                  have b3 : done.length + (r.length + 1) = l.length := by rw [← hd]; simp
                  have b4 := len_acts b (n, d)
                  have b5 : dn.length ≤ (acts b (n, d)).length := by rw [← hdn]; simp
                  have b6 := List.length_filter_le (fun p => (nxt b l n p).isEmpty) dn
                  refine Sd.mk (by simp only [List.length_map, List.length_append]; omega) ?_
                  bv_omega
                  refine ⟨dn ++ [p], some (.d (.int p)), by rw [List.append_assoc]; exact hdn, ?_⟩
                  rw [List.filter_append, show [p].filter (fun p => (nxt b l n p).isEmpty) = [p] by simp [hx]]
                  simp [stD]
                · bv_omega
                  refine ⟨dn ++ [p], some (.d (.int p)), by rw [List.append_assoc]; exact hdn, ?_⟩
                  rw [List.filter_append, show [p].filter (fun p => (nxt b l n p).isEmpty) = [] by simp [hx], List.append_nil]
      · refine ⟨states0 b, [.tuple []], _, _, _, _, none, none, none, none, none, rfl, List.Sublist.refl _, fun S h _ => h, fun h => by simp at h, by decide, by simp⟩
  · intro i g i0 i1 h
    obtain ⟨o2, o3, o4, o7, e⟩ := h
    obtain ⟨n, en⟩ := Int.eq_ofNat_of_zero_le i0
    subst en
    subst e
    have hnN : n < N := by omega
    bv_omega
    refine wp_forN (fun d g => ∃ (o3 o4 o7 : Option O), g = [some (.d b.d), some (mkO (mkD b (((List.range n).flatMap fun n => rowS b n (b.deeds.length + 1)) ++ rowS b n (d + 1).toNat))), some (.d (.int n)), o3, o4, none, none, o7, none, none, none, none, none]) ?_ ?_ ⟨o3, o4, o7, by simp [rowS]⟩
    · rintro g ⟨o3, o4, o7, rfl⟩
      bv_omega
      have e1 : ((n : Int) + 1).toNat = n + 1 := by omega
      have e2 : (-1 + ((((b.deeds.map PyData.str).length : Nat) : Int) - -1).toNat + 1 : Int).toNat = b.deeds.length + 1 := by simp; omega
      have e3 : ((List.range n).flatMap fun n => rowS b n (b.deeds.length + 1)) ++ rowS b n (b.deeds.length + 1) = (List.range (n + 1)).flatMap fun n => rowS b n (b.deeds.length + 1) := by
        rw [List.range_succ, List.flatMap_append]
        simp
      rw [e1, e2, e3]
      exact ⟨_, _, _, _, rfl⟩
    · rintro d g d0 d1 ⟨o3, o4, o7, rfl⟩
      simp only [List.length_map] at d1
      obtain ⟨j, rfl⟩ : ∃ j : Nat, d = (j : Int) - 1 := ⟨(d + 1).toNat, by omega⟩
      have hjD : j < b.deeds.length + 1 := by omega
      bv_omega
      refine fw_rests hb (by omega) (by omega) (by omega) fun xs hx1 hx2 hx3 => ?_
      bv_omega
      have hsl := len_srtS (xs.map fun (x : Nat) => (x : Int))
      rw [List.length_map] at hsl
      refine fw_fits hb (by omega) (by omega) ?_
      rw [fits_eq hx2]
      bv_omega
      have ej : ((j : Int) - 1 + 1).toNat = j := by omega
      have ej2 : ((j : Int) - 1 + 1 + 1).toNat = j + 1 := by omega
      refine IfK.mk (fun hf => ?_) (fun hf => ?_)
      · bv_omega
        rw [intsF_map]
        refine wp_lcT PyData.int (fun i => !decide (i ∈ srtS (xs.map fun (x : Nat) => (x : Int)))) (fun i => .d (.int i)) (fun i hi => ?_) ?_
        · bv_omega
          refine ⟨rfl, ?_⟩
          refine IfK.mk (fun e => ?_) (fun e => ?_)
          · bv_omega
            trivial
          · bv_omega
            trivial
        · rw [List.nil_append]
          have eL : (((List.range ((((b.deeds.map PyData.str).length : Nat) : Int)).toNat).map fun (p : Nat) => 0 + (p : Int)).filter fun i => !decide (i ∈ srtS (xs.map fun (x : Nat) => (x : Int)))) = (acts b ((n : Int), (j : Int) - 1)).map fun (p : Nat) => (p : Int) := by
            rw [List.length_map, Int.toNat_natCast]
            exact acts_eq hx2
          rw [eL]
          bv_omega
          have hnew : ((n : Int), (j : Int) - 1) ∉ ((List.range n).flatMap fun n => rowS b n (b.deeds.length + 1)) ++ rowS b n ((j : Int) - 1 + 1).toNat := by
            intro h
            rcases List.mem_append.mp h with h | h
            · obtain ⟨n', hn', h⟩ := List.mem_flatMap.mp h
              have h1 : (n : Int) = n' := (mem_rowS h).1
              have h2 := List.mem_range.mp hn'
              omega
            · have h1 : (j : Int) - 1 < (((j : Int) - 1 + 1).toNat : Int) - 1 := (mem_rowS h).2.2
              omega
          refine Sd.mk (fresh_of hnew) ?_
          have l1 := len_states b n (b.deeds.length + 1)
          have l2 := len_rowS b n ((j : Int) - 1 + 1).toNat
          have l3 : n * (b.deeds.length + 1) ≤ 8 * 4 := Nat.mul_le_mul (by omega) (by omega)
          refine Sd.mk (by simp only [List.length_map, mkD, List.length_append]; omega) ?_
          bv_omega
          have e9 : ∀ l : List (Int × Int), mkD b (l ++ [((n : Int), (j : Int) - 1)]) = mkD b l ++ [(kk [(n : Int), (j : Int) - 1], .list (((acts b ((n : Int), (j : Int) - 1)).map fun (p : Nat) => (p : Int)).map PyData.int))] := fun l => by
            simp [mkD, List.map_map, Function.comp_def]
          rw [ej, ej2, rowS_succ, if_pos hf, ← List.append_assoc, e9, mkO_sn]
          exact ⟨_, _, _, rfl⟩
      · bv_omega
        rw [ej, ej2, rowS_succ, if_neg (by simp [hf]), List.append_nil]
        exact ⟨_, _, _, rfl⟩
end G
namespace G
open PySem PySem.Spec L2 Z
local macro_rules | `(tactic| bv_omega) => `(tactic| repeat (first | with_reducible refine Stp.go ?_ | ((with_reducible refine Sd.mk ?_ ?_); focus (first | assumption | omega | exact Nat.zero_le _ | exact mulC_l | exact mulC_r | (simp only [List.length_cons, List.length_nil, List.length_map, List.length_append, Z.len_app]; omega) | (simp only [List.length_map, List.length_append, List.length_cons, List.length_nil, Z.intsF_len] at *; omega) | with_unfolding_all exact rfl | (refine powC_of ?_; omega) | assumption | exact List.mem_cons_self)) | with_reducible refine IfK.dt (by decide) ?_ | with_reducible refine IfK.df (by decide) ?_))
local macro_rules | `(tactic| array_get_dec) => `(tactic| repeat ((fail_if_success (with_reducible refine isJn ?_)); (first | with_reducible refine Stp.go ?_ | ((with_reducible refine Sd.mk ?_ ?_); focus (first | assumption | omega | exact Nat.zero_le _ | exact mulC_l | exact mulC_r | (simp only [List.length_cons, List.length_nil, List.length_map, List.length_append, Z.len_app]; omega) | (simp only [List.length_map, List.length_append, List.length_cons, List.length_nil, Z.intsF_len] at *; omega) | with_unfolding_all exact rfl | (refine powC_of ?_; omega) | assumption | exact List.mem_cons_self)) | with_reducible refine IfK.dt (by decide) ?_ | with_reducible refine IfK.df (by decide) ?_)))
local macro_rules | `(tactic| array_mem_dec) => `(tactic| (repeat' (first | (first | with_reducible refine Stp.go ?_ | ((with_reducible refine Sd.mk ?_ ?_); focus (first | assumption | omega | exact Nat.zero_le _ | exact mulC_l | exact mulC_r | (simp only [List.length_cons, List.length_nil, List.length_map, List.length_append, Z.len_app]; omega) | (simp only [List.length_map, List.length_append, List.length_cons, List.length_nil, Z.intsF_len] at *; omega) | with_unfolding_all exact rfl | (refine powC_of ?_; omega) | assumption | exact List.mem_cons_self)) | with_reducible refine IfK.dt (by decide) ?_ | with_reducible refine IfK.df (by decide) ?_) | refine IfK.dec (fun _ => ?_) (fun _ => ?_) | (refine CndK.mk ?_; first | rfl | (simp [*]; done) | (simp; omega) | (simp at *; done) | (simp at *; simp [*]; done) | (simp at *; omega)))))
local macro_rules | `(tactic| sizeOf_list_dec) => `(tactic| repeat ((fail_if_success (first | with_reducible refine isLc ?_ | with_reducible refine isFor ?_)); (first | with_reducible refine Stp.go ?_ | ((with_reducible refine Sd.mk ?_ ?_); focus (first | assumption | omega | exact Nat.zero_le _ | exact mulC_l | exact mulC_r | (simp only [List.length_cons, List.length_nil, List.length_map, List.length_append, Z.len_app]; omega) | (simp only [List.length_map, List.length_append, List.length_cons, List.length_nil, Z.intsF_len] at *; omega) | with_unfolding_all exact rfl | (refine powC_of ?_; omega) | assumption | exact List.mem_cons_self)) | with_reducible refine IfK.dt (by decide) ?_ | with_reducible refine IfK.df (by decide) ?_)))
instance cutI {α : Type} {r : List α} {a : α} : CutC (r ++ [a]) none (some (-1)) r := ⟨by rw [cutN.eq, List.dropLast_concat]⟩
instance cutL {α : Type} {r : List α} {a : α} : CutC (r ++ [a]) (some (-1)) none [a] := ⟨by
  have e : HT.sIx (r ++ [a]).length 0 (some (-1)) = r.length := by
    unfold HT.sIx
    simp
    omega
  unfold cutD
  rw [e]
  simp [HT.sIx]⟩
theorem Tst.sh {qs : List Str} (hq : ∀ q ∈ qs, SOk q) : ∀ {t : Tst}, t.over qs → Sh (t.deep + 1) t.d
  | .yes, _ => Sh.tup fun x hx => by
    simp only [List.mem_cons, List.not_mem_nil, or_false] at hx
    subst hx; exact Sh.mono (Sh.str (by decide)) (by simp [Tst.deep])
  | .no, _ => Sh.tup fun x hx => by
    simp only [List.mem_cons, List.not_mem_nil, or_false] at hx
    subst hx; exact Sh.mono (Sh.str (by decide)) (by simp [Tst.deep])
  | .ask q, h => Sh.tup fun x hx => by
    simp only [List.mem_cons, List.not_mem_nil, or_false] at hx
    rcases hx with rfl | rfl
    · exact Sh.mono (Sh.str (by decide)) (by simp [Tst.deep])
    · exact Sh.mono (Sh.str (hq q h)) (by simp [Tst.deep])
  | .not t, h => Sh.tup fun x hx => by
    have h1 := Tst.sh hq (t := t) h
    simp only [List.mem_cons, List.not_mem_nil, or_false] at hx
    rcases hx with rfl | rfl
    · exact Sh.mono (Sh.str (by decide)) (by simp [Tst.deep])
    · exact Sh.mono h1 (by simp only [Tst.deep]; omega)
  | .and t u, h => Sh.tup fun x hx => by
    have h1 := Tst.sh hq (t := t) h.1
    have h2 := Tst.sh hq (t := u) h.2
    simp only [List.mem_cons, List.not_mem_nil, or_false] at hx
    rcases hx with rfl | rfl | rfl
    · exact Sh.mono (Sh.str (by decide)) (by simp [Tst.deep])
    · exact Sh.mono h1 (by simp only [Tst.deep]; omega)
    · exact Sh.mono h2 (by simp only [Tst.deep]; omega)
  | .or t u, h => Sh.tup fun x hx => by
    have h1 := Tst.sh hq (t := t) h.1
    have h2 := Tst.sh hq (t := u) h.2
    simp only [List.mem_cons, List.not_mem_nil, or_false] at hx
    rcases hx with rfl | rfl | rfl
    · exact Sh.mono (Sh.str (by decide)) (by simp [Tst.deep])
    · exact Sh.mono h1 (by simp only [Tst.deep]; omega)
    · exact Sh.mono h2 (by simp only [Tst.deep]; omega)
theorem Fact.sh {qs ps : List Str} (hq : ∀ q ∈ qs, SOk q) (hp : ∀ p ∈ ps, SOk p) (f : Fact) (h : f.over qs ps) : Sh 10 f.d := by
  cases f with
  | never t =>
    refine Sh.tup (d := 9) fun x hx => ?_
    have := h.2.2
    simp only [List.mem_cons, List.not_mem_nil, or_false] at hx
    rcases hx with rfl | rfl
    · exact Sh.mono (Sh.str (by decide)) (by decide)
    · exact Sh.mono (Tst.sh hq h.1) (by omega)
  | keeps p q =>
    refine Sh.mono (Sh.tup (d := 1) fun x hx => ?_) (by decide)
    simp only [List.mem_cons, List.not_mem_nil, or_false] at hx
    rcases hx with rfl | rfl | rfl
    · exact Sh.str (by decide)
    · exact Sh.str (hp _ h.1)
    · exact Sh.str (hq _ h.2)
  | makes p q v =>
    refine Sh.mono (Sh.tup (d := 1) fun x hx => ?_) (by decide)
    simp only [List.mem_cons, List.not_mem_nil, or_false] at hx
    rcases hx with rfl | rfl | rfl | rfl
    · exact Sh.str (by decide)
    · exact Sh.str (hp _ h.1)
    · exact Sh.str (hq _ h.2)
    · exact Sh.bool
  | rests p q =>
    refine Sh.mono (Sh.tup (d := 1) fun x hx => ?_) (by decide)
    simp only [List.mem_cons, List.not_mem_nil, or_false] at hx
    rcases hx with rfl | rfl | rfl
    · exact Sh.str (by decide)
    · exact Sh.str (hp _ h.1)
    · exact Sh.str (hp _ h.2)
  | idles q v p =>
    refine Sh.mono (Sh.tup (d := 1) fun x hx => ?_) (by decide)
    simp only [List.mem_cons, List.not_mem_nil, or_false] at hx
    rcases hx with rfl | rfl | rfl | rfl
    · exact Sh.str (by decide)
    · exact Sh.str (hq _ h.1)
    · exact Sh.bool
    · exact Sh.str (hp _ h.2)
  | still p =>
    refine Sh.mono (Sh.tup (d := 1) fun x hx => ?_) (by decide)
    simp only [List.mem_cons, List.not_mem_nil, or_false] at hx
    rcases hx with rfl | rfl
    · exact Sh.str (by decide)
    · exact Sh.str (hp _ h)
theorem fw_book {c s : Int} {A : O → List O → Prop} {B : Exn → Prop}
    (k : ∀ (b : Book) (c s : Int), b.Ok → A (.d b.d) [.lst [.d (.int c), .d (.int s)]]) :
    FW (f_law_book [.lst [.d (.int c), .d (.int s)]]) A B := by
  refine fwRun ?_
  unfold g_law_book
  array_get_dec
  intro n1 c s a0 a1; array_get_dec
  refine fw_names a0 (by omega) fun qs c s q1 q2 q3 => ?_
  array_get_dec
  intro n2 c s b0 b1; array_get_dec
  refine fw_names (by omega) (by omega) fun ps c s p1 p2 p3 => ?_
  array_get_dec
  refine wp_jn (fun g => ∃ (c s : Int) (ps' : List Str), ps'.length = ps.length ∧ ps'.Nodup ∧ (∀ z ∈ ps', NmOk z) ∧ g = [some (.lst [.d (.int c), .d (.int s)]), some (.d (.tuple (qs.map .str))), some (.d (.tuple (ps'.map .str))), none, none, none, none]) ?_ ?_
  · bv_omega
    intro t c s t0 t1; bv_omega
    refine IfK.mk (fun h => ?_) (fun h => ?_)
    · bv_omega
      refine IfK.mk (fun h2 => ?_) (fun h2 => ?_)
      · obtain _ | ⟨q, qr⟩ := qs
        · simp at h2
        obtain ⟨pi, pl, rfl⟩ : ∃ pi pl, ps = pi ++ [pl] := by
          rcases List.eq_nil_or_concat ps with e | ⟨a, b, e⟩
          · rw [e] at p1; simp at p1; omega
          · exact ⟨a, b, by simpa using e⟩
        rw [List.map_cons, List.map_append, List.map_cons, List.map_nil]
        bv_omega
        refine IfK.mk (fun h3 => ?_) (fun h3 => ?_)
        · bv_omega
          refine IfK.mk (fun _ => ?_) (fun e => by cases e)
          bv_omega
          exact ⟨c, s, pi ++ [pl], rfl, p2, p3, by simp⟩
        · bv_omega
          refine IfK.mk (fun e => by cases e) (fun _ => ?_)
          bv_omega
          refine ⟨c, s, pi ++ [q], by simp, ?_, ?_, by simp⟩
          · have p2' := (List.nodup_append.mp p2).1
            have hq : ¬ q ∈ pi := by simpa using h3
            refine List.nodup_append.mpr ⟨p2', by simp, fun a ha b hb e => ?_⟩
            simp only [List.mem_singleton] at hb
            rw [e, hb] at ha
            exact hq ha
          · intro z hz
            rcases List.mem_append.mp hz with hz | hz
            · exact p3 z (by simp [hz])
            · simp only [List.mem_singleton] at hz
              rw [hz]
              exact q3 q (by simp)
      · bv_omega
        exact ⟨_, _, ps, rfl, p2, p3, rfl⟩
    · bv_omega
      exact ⟨_, _, ps, rfl, p2, p3, rfl⟩
  · rintro g ⟨c, s, ps', e1, e2, e3, rfl⟩
    array_get_dec
    intro v3 c s v30 v31; array_get_dec
    intro v7 c s v70 v71; array_get_dec
    intro v2 c s v20 v21; array_get_dec
    refine ix_any (e := PyData.int) (l := [v3, v7]) rfl v20 (by simpa using v21) fun m hm => ?_
    have m0 : 0 ≤ m ∧ m < 7 := by
      simp only [List.mem_cons, List.not_mem_nil, or_false] at hm
      rcases hm with rfl | rfl <;> omega
    sizeOf_list_dec
    refine wp_lcB Fact.d (fun f => f.over qs ps') (fun g => ∃ (c s : Int) (o6 : Option O), g = [some (.lst [.d (.int c), .d (.int s)]), some (.d (.tuple (qs.map .str))), some (.d (.tuple (ps'.map .str))), some (.d (.int m)), none, none, o6]) (fun fs g f1 f2 f3 => ?_) (fun d hd g f3 => ?_) ⟨_, _, _, rfl⟩
    · obtain ⟨c, s, o6, rfl⟩ := f3
      array_get_dec
      refine wp_jn (fun g => ∃ (c s : Int) (fs : List Fact), fs.length ≤ 6 ∧ (∀ f ∈ fs, f.over qs ps') ∧ g = [some (.lst [.d (.int c), .d (.int s)]), some (.d (.tuple (qs.map .str))), some (.d (.tuple (ps'.map .str))), some (.d (.int m)), some (.d (.tuple (fs.map Fact.d))), none, none]) ?_ ?_
      · bv_omega
        intro t8 c s t80 t81; bv_omega
        have hfs : fs.length ≤ 6 := by rw [f1, intsF_len]; omega
        refine IfK.mk (fun h8 => ?_) (fun h8 => ?_)
        · bv_omega
          refine wp_whI (fun j g => ∃ (fs : List Fact), fs.length = j ∧ fs.length ≤ 6 ∧ (∀ f ∈ fs, f.over qs ps') ∧ g = [some (.lst [.d (.int c), .d (.int s)]), some (.d (.tuple (qs.map .str))), some (.d (.tuple (ps'.map .str))), some (.d (.int m)), some (.d (.tuple (fs.map Fact.d))), none, none]) ?_ (k := fs.length) (by omega) ⟨fs, rfl, hfs, f2, rfl⟩
          rintro j g ⟨fs, rfl, l6, hov, rfl⟩
          bv_omega
          refine Sd.mk ⟨(Sh.tup fun x hx => by obtain ⟨f, hf, rfl⟩ := List.mem_map.mp hx; exact f.sh (fun q h => low_sok (q3 q h).low) (fun p h => low_sok (e3 p h).low) (hov f hf)).shaped (by decide), by decide⟩ ?_
          bv_omega
          have eE : (PyData.tuple (fs.map Fact.d)).eqv (PyData.tuple []) = fs.isEmpty := by
            cases fs with
            | nil => decide
            | cons x r => simp [PyData.eqv, PyData.eqvAll]
          rw [eE]
          refine IfK.mk (fun h => ?_) (fun h => ?_)
          · bv_omega
            exact ⟨_, _, fs, l6, hov, rfl⟩
          · bv_omega
            refine fw_live (b := ⟨qs, ps', fs⟩) ⟨q2, e2, by show qs.length ≤ 3; omega, by show 1 ≤ ps'.length; omega, by show ps'.length ≤ 3; omega, l6, hov⟩ fun left v1 v2 v3 => ?_
            bv_omega
            refine IfK.mk (fun _ => ?_) (fun _ => ?_)
            · obtain ⟨fi, fl, rfl⟩ : ∃ pi pl, fs = pi ++ [pl] := by
                rcases List.eq_nil_or_concat fs with e | ⟨a, b, e⟩
                · rw [e] at h; cases h
                · exact ⟨a, b, by simpa using e⟩
              rw [List.map_append, List.map_cons, List.map_nil]
              bv_omega
              refine ⟨fi.length, by simp, fi, rfl, by simp at l6; omega, fun f hf => hov f (by simp [hf]), rfl⟩
            · bv_omega
              exact ⟨_, _, fs, l6, hov, rfl⟩
        · bv_omega
          exact ⟨_, _, fs, hfs, f2, rfl⟩
      · rintro g ⟨c, s, fs, l6, hov, rfl⟩
        bv_omega
        exact k ⟨qs, ps', fs⟩ _ _ ⟨q2, e2, q3, e3, by show qs.length ≤ 3; omega, by show 1 ≤ ps'.length; omega, by show ps'.length ≤ 3; omega, l6, hov⟩
    · obtain ⟨c, s, o6, rfl⟩ := f3
      bv_omega
      refine fw_fact (by omega) (by omega) (by omega) fun f c s hf => ?_
      bv_omega
      exact ⟨f, rfl, hf, c, s, _, rfl⟩
end G
namespace G
open PySem PySem.Spec L2 Z
local macro_rules | `(tactic| bv_omega) => `(tactic| repeat (first | with_reducible refine Stp.go ?_ | ((with_reducible refine Sd.mk ?_ ?_); focus (first | assumption | omega | exact Nat.zero_le _ | exact mulC_l | exact mulC_r | (simp only [List.length_cons, List.length_nil, List.length_map, List.length_append, Z.len_app]; omega) | (simp only [List.length_map, List.length_append, List.length_cons, List.length_nil, Z.intsF_len] at *; omega) | with_unfolding_all exact rfl | (refine powC_of ?_; omega) | assumption | exact List.mem_cons_self)) | with_reducible refine IfK.dt (by decide) ?_ | with_reducible refine IfK.df (by decide) ?_))
local macro_rules | `(tactic| array_get_dec) => `(tactic| repeat ((fail_if_success (with_reducible refine isJn ?_)); (first | with_reducible refine Stp.go ?_ | ((with_reducible refine Sd.mk ?_ ?_); focus (first | assumption | omega | exact Nat.zero_le _ | exact mulC_l | exact mulC_r | (simp only [List.length_cons, List.length_nil, List.length_map, List.length_append, Z.len_app]; omega) | (simp only [List.length_map, List.length_append, List.length_cons, List.length_nil, Z.intsF_len] at *; omega) | with_unfolding_all exact rfl | (refine powC_of ?_; omega) | assumption | exact List.mem_cons_self)) | with_reducible refine IfK.dt (by decide) ?_ | with_reducible refine IfK.df (by decide) ?_)))
local macro_rules | `(tactic| array_mem_dec) => `(tactic| (repeat' (first | (first | with_reducible refine Stp.go ?_ | ((with_reducible refine Sd.mk ?_ ?_); focus (first | assumption | omega | exact Nat.zero_le _ | exact mulC_l | exact mulC_r | (simp only [List.length_cons, List.length_nil, List.length_map, List.length_append, Z.len_app]; omega) | (simp only [List.length_map, List.length_append, List.length_cons, List.length_nil, Z.intsF_len] at *; omega) | with_unfolding_all exact rfl | (refine powC_of ?_; omega) | assumption | exact List.mem_cons_self)) | with_reducible refine IfK.dt (by decide) ?_ | with_reducible refine IfK.df (by decide) ?_) | refine IfK.dec (fun _ => ?_) (fun _ => ?_) | (refine CndK.mk ?_; first | rfl | (simp [*]; done) | (simp; omega) | (simp at *; done) | (simp at *; simp [*]; done) | (simp at *; omega)))))
local macro_rules | `(tactic| sizeOf_list_dec) => `(tactic| repeat ((fail_if_success (first | with_reducible refine isLc ?_ | with_reducible refine isFor ?_)); (first | with_reducible refine Stp.go ?_ | ((with_reducible refine Sd.mk ?_ ?_); focus (first | assumption | omega | exact Nat.zero_le _ | exact mulC_l | exact mulC_r | (simp only [List.length_cons, List.length_nil, List.length_map, List.length_append, Z.len_app]; omega) | (simp only [List.length_map, List.length_append, List.length_cons, List.length_nil, Z.intsF_len] at *; omega) | with_unfolding_all exact rfl | (refine powC_of ?_; omega) | assumption | exact List.mem_cons_self)) | with_reducible refine IfK.dt (by decide) ?_ | with_reducible refine IfK.df (by decide) ?_)))
instance sl_book {b : Book} {AO : O → Prop} : Stp (optW (slF false true [.d b.d, .d (.int 2)]) AO) (AO (.d (.tuple [.tuple (b.asks.map PyData.str), .tuple (b.deeds.map PyData.str)]))) := ⟨fun h => (inferInstance : Stp (optW (slF false true [.d (.tuple b.ds), .d (.int 2)]) AO) (AO (.d (.tuple [.tuple (b.asks.map PyData.str), .tuple (b.deeds.map PyData.str)])))).go h⟩
end G
namespace Z
open PySem PySem.Spec L2
/-- the pairs, numbered from n -/
def enD : Nat → List PyData → List PyData
  | _, [] => []
  | n, x :: r => .tuple [.int n, x] :: enD (n + 1) r
def enM (os : List O) : M (List PyData) := fun g => match os with
  | [.d (.tuple ds)] => .ok (enD 0 ds) g
  | _ => .bad
section
variable {AD : List PyData → Gs → Prop} {B : Exn → Gs → Prop} {g : Gs} {ds : List PyData} {n : Nat}
instance s_en : Stp (Wp (enM [.d (.tuple ds)] g) AD B) (AD (enD 0 ds) g) := ⟨id⟩
end
end Z
namespace G
open PySem PySem.Spec L2 Z
end G
namespace G
open PySem PySem.Spec L2 Z
local macro_rules | `(tactic| bv_omega) => `(tactic| repeat (first | with_reducible refine Stp.go ?_ | ((with_reducible refine Sd.mk ?_ ?_); focus (first | assumption | omega | exact Nat.zero_le _ | exact mulC_l | exact mulC_r | (simp only [List.length_cons, List.length_nil, List.length_map, List.length_append, Z.len_app]; omega) | (simp only [List.length_map, List.length_append, List.length_cons, List.length_nil, Z.intsF_len] at *; omega) | with_unfolding_all exact rfl | (refine powC_of ?_; omega) | assumption | exact List.mem_cons_self)) | with_reducible refine IfK.dt (by decide) ?_ | with_reducible refine IfK.df (by decide) ?_))
local macro_rules | `(tactic| array_get_dec) => `(tactic| repeat ((fail_if_success (with_reducible refine isJn ?_)); (first | with_reducible refine Stp.go ?_ | ((with_reducible refine Sd.mk ?_ ?_); focus (first | assumption | omega | exact Nat.zero_le _ | exact mulC_l | exact mulC_r | (simp only [List.length_cons, List.length_nil, List.length_map, List.length_append, Z.len_app]; omega) | (simp only [List.length_map, List.length_append, List.length_cons, List.length_nil, Z.intsF_len] at *; omega) | with_unfolding_all exact rfl | (refine powC_of ?_; omega) | assumption | exact List.mem_cons_self)) | with_reducible refine IfK.dt (by decide) ?_ | with_reducible refine IfK.df (by decide) ?_)))
local macro_rules | `(tactic| array_mem_dec) => `(tactic| (repeat' (first | (first | with_reducible refine Stp.go ?_ | ((with_reducible refine Sd.mk ?_ ?_); focus (first | assumption | omega | exact Nat.zero_le _ | exact mulC_l | exact mulC_r | (simp only [List.length_cons, List.length_nil, List.length_map, List.length_append, Z.len_app]; omega) | (simp only [List.length_map, List.length_append, List.length_cons, List.length_nil, Z.intsF_len] at *; omega) | with_unfolding_all exact rfl | (refine powC_of ?_; omega) | assumption | exact List.mem_cons_self)) | with_reducible refine IfK.dt (by decide) ?_ | with_reducible refine IfK.df (by decide) ?_) | refine IfK.dec (fun _ => ?_) (fun _ => ?_) | (refine CndK.mk ?_; first | rfl | (simp [*]; done) | (simp; omega) | (simp at *; done) | (simp at *; simp [*]; done) | (simp at *; omega)))))
local macro_rules | `(tactic| sizeOf_list_dec) => `(tactic| repeat ((fail_if_success (first | with_reducible refine isLc ?_ | with_reducible refine isFor ?_)); (first | with_reducible refine Stp.go ?_ | ((with_reducible refine Sd.mk ?_ ?_); focus (first | assumption | omega | exact Nat.zero_le _ | exact mulC_l | exact mulC_r | (simp only [List.length_cons, List.length_nil, List.length_map, List.length_append, Z.len_app]; omega) | (simp only [List.length_map, List.length_append, List.length_cons, List.length_nil, Z.intsF_len] at *; omega) | with_unfolding_all exact rfl | (refine powC_of ?_; omega) | assumption | exact List.mem_cons_self)) | with_reducible refine IfK.dt (by decide) ?_ | with_reducible refine IfK.df (by decide) ?_)))
def Err.put (p : Str) : Err → Err → Err
  | .done, _ => .done
  | .doo q, i => if q = p then i else .doo q
  | .often e, i => .often (e.put p i)
  | .whl t e, i => .whl t (e.put p i)
  | .thn a b, i => .thn (a.put p i) (b.put p i)
  | .iff t a b, i => .iff t (a.put p i) (b.put p i)
  | .eth a b, i => .eth (a.put p i) (b.put p i)
end G
namespace G
open PySem PySem.Spec L2 Z
theorem Err.sh {qs ps : List Str} (hq : ∀ q ∈ qs, SOk q) (hp : ∀ p ∈ ps, SOk p) {m : Nat} : ∀ {e : Err}, e.over qs ps → e.tst (fun t => t.deep ≤ m) → Sh (e.deep + m + 2) e.d
  | .done, _, _ => Sh.tup fun x hx => by
    simp only [List.mem_cons, List.not_mem_nil, or_false] at hx
    subst hx; exact Sh.mono (Sh.str (by decide)) (by omega)
  | .doo p, h, _ => Sh.tup fun x hx => by
    simp only [List.mem_cons, List.not_mem_nil, or_false] at hx
    rcases hx with rfl | rfl
    · exact Sh.mono (Sh.str (by decide)) (by omega)
    · exact Sh.mono (Sh.str (hp _ h)) (by omega)
  | .often e, h, g => Sh.tup fun x hx => by
    have h1 := Err.sh hq hp (e := e) h g
    simp only [List.mem_cons, List.not_mem_nil, or_false] at hx
    rcases hx with rfl | rfl
    · exact Sh.mono (Sh.str (by decide)) (by omega)
    · exact Sh.mono h1 (by simp only [Err.deep]; omega)
  | .whl t e, h, g => Sh.tup fun x hx => by
    have h1 := Err.sh hq hp (e := e) h.2 g.2
    have h2 := Tst.sh hq h.1
    have h3 := g.1
    simp only [List.mem_cons, List.not_mem_nil, or_false] at hx
    rcases hx with rfl | rfl | rfl
    · exact Sh.mono (Sh.str (by decide)) (by omega)
    · exact Sh.mono h2 (by simp only [Err.deep]; omega)
    · exact Sh.mono h1 (by simp only [Err.deep]; omega)
  | .thn a b, h, g => Sh.tup fun x hx => by
    have h1 := Err.sh hq hp (e := a) h.1 g.1
    have h2 := Err.sh hq hp (e := b) h.2 g.2
    simp only [List.mem_cons, List.not_mem_nil, or_false] at hx
    rcases hx with rfl | rfl | rfl
    · exact Sh.mono (Sh.str (by decide)) (by omega)
    · exact Sh.mono h1 (by simp only [Err.deep]; omega)
    · exact Sh.mono h2 (by simp only [Err.deep]; omega)
  | .eth a b, h, g => Sh.tup fun x hx => by
    have h1 := Err.sh hq hp (e := a) h.1 g.1
    have h2 := Err.sh hq hp (e := b) h.2 g.2
    simp only [List.mem_cons, List.not_mem_nil, or_false] at hx
    rcases hx with rfl | rfl | rfl
    · exact Sh.mono (Sh.str (by decide)) (by omega)
    · exact Sh.mono h1 (by simp only [Err.deep]; omega)
    · exact Sh.mono h2 (by simp only [Err.deep]; omega)
  | .iff t a b, h, g => Sh.tup fun x hx => by
    have h1 := Err.sh hq hp (e := a) h.2.1 g.2.1
    have h2 := Err.sh hq hp (e := b) h.2.2 g.2.2
    have h4 := Tst.sh hq h.1
    have h3 := g.1
    simp only [List.mem_cons, List.not_mem_nil, or_false] at hx
    rcases hx with rfl | rfl | rfl | rfl
    · exact Sh.mono (Sh.str (by decide)) (by omega)
    · exact Sh.mono h4 (by simp only [Err.deep]; omega)
    · exact Sh.mono h1 (by simp only [Err.deep]; omega)
    · exact Sh.mono h2 (by simp only [Err.deep]; omega)
theorem Book.Ok.fit {b : Book} (h : b.Ok) : b.Fit := ⟨h.asksN, h.deedsN, h.asksL, h.deedsP, h.deedsL, h.factsL, h.factsO⟩
theorem cutD_map {α β : Type} (f : α → β) (l : List α) (lo hi : Option Int) : cutD (l.map f) lo hi = (cutD l lo hi).map f := by
  unfold cutD
  simp only [List.length_map, List.map_take, List.map_drop]
instance isiE1 {e : Err} : IsiC "tuple" (.d e.d) true := by cases e <;> exact isi6
instance isiT1 {e : Tst} : IsiC "tuple" (.d e.d) true := by cases e <;> exact isi6
end G
namespace Z
open PySem PySem.Spec L2
inductive Sp1 where
  | fld (f : Str)
  | idx (j : Nat)
  | kT (k : List Key)
  | kK (k : Key)
abbrev Pth := List Sp1
def setV {α β : Type} : List (α × β) → Nat → β → List (α × β)
  | [], _, _ => []
  | p :: r, 0, o => (p.1, o) :: r
  | p :: r, j + 1, o => p :: setV r j o
theorem setV_keys {α β : Type} : ∀ {l : List (α × β)} {j : Nat} {o : β}, (setV l j o).map (·.1) = l.map (·.1)
  | [], _, _ => rfl
  | _ :: _, 0, _ => rfl
  | p :: r, j + 1, o => by simp only [setV, List.map_cons, setV_keys (l := r)]
theorem setV_vals {α β : Type} : ∀ {l : List (α × β)} {j : Nat} {o : β}, (setV l j o).map (·.2) = (l.map (·.2)).set j o
  | [], _, _ => rfl
  | _ :: _, 0, _ => rfl
  | p :: r, j + 1, o => by simp only [setV, List.map_cons, List.set_cons_succ, setV_vals (l := r)]
def chs : O → List O
  | .lst os => os
  | .tup os => os
  | .dK kvs => kvs.map (·.2)
  | .dT kvs => kvs.map (·.2)
  | .ins _ fs => fs.map (·.2)
  | _ => []
def chV : HO → List V
  | .lst os => os
  | .tup os => os
  | .dK kvs => kvs.map (·.2)
  | .dT kvs => kvs.map (·.2)
  | .ins _ _ fs => fs.map (·.2)
  | _ => []
def setC : O → Nat → O → O
  | .lst os, j, o => .lst (os.set j o)
  | .tup os, j, o => .tup (os.set j o)
  | .dK kvs, j, o => .dK (setV kvs j o)
  | .dT kvs, j, o => .dT (setV kvs j o)
  | .ins c fs, j, o => .ins c (setV fs j o)
  | x, _, _ => x
def fix1 {α : Type} [DecidableEq α] (ks : List α) (k : α) : Option Nat := ks.findIdx? fun x => decide (x = k)
def cix : O → Sp1 → Option Nat
  | .lst _, .idx j => some j
  | .tup _, .idx j => some j
  | .dK kvs, .kK k => fix1 (kvs.map (·.1)) k
  | .dT kvs, .kT k => fix1 (kvs.map (·.1)) k
  | .ins _ fs, .fld f => fix1 (fs.map (·.1)) f
  | _, _ => none
def cixV : HO → Sp1 → Option Nat
  | .lst _, .idx j => some j
  | .tup _, .idx j => some j
  | .dK kvs, .kK k => fix1 (kvs.map (·.1)) k
  | .dT kvs, .kT k => fix1 (kvs.map (·.1)) k
  | .ins _ _ fs, .fld f => fix1 (fs.map (·.1)) f
  | _, _ => none
def sub1 (o : O) (s : Sp1) : Option O := match cix o s with
  | some j => (chs o)[j]?
  | none => none
def put1 (o : O) (s : Sp1) (x : O) : O := match cix o s with
  | some j => setC o j x
  | none => o
def getP : O → Pth → Option O
  | o, [] => some o
  | o, s :: π => match sub1 o s with
    | some x => getP x π
    | none => none
def setP : O → Pth → O → O
  | _, [], x => x
  | o, s :: π, x => match sub1 o s with
    | some y => put1 o s (setP y π x)
    | none => o
/-- where a place leads, by the heap -/
inductive Wlk (H : Hp) : V → Pth → V → Prop
  | nil {v : V} : Wlk H v [] v
  | cons {a : Addr} {ho : HO} {s : Sp1} {j : Nat} {u w : V} {π : Pth} : H a = some ho → cixV ho s = some j → (chV ho)[j]? = some u → Wlk H u π w → Wlk H (.ref a) (s :: π) w
theorem Wlk.same {H H' : Hp} {v w : V} {π : Pth} (e : Same H H') (h : Wlk H v π w) : Wlk H' v π w := by
  induction h with
  | nil => exact .nil
  | cons g1 g2 g3 _ ih => exact .cons (e _ _ g1) g2 g3 ih
theorem Wlk.det {H : Hp} {v w w' : V} {π : Pth} (h : Wlk H v π w) (h' : Wlk H v π w') : w = w' := by
  induction h with
  | nil => cases h'; rfl
  | cons g1 g2 g3 _ ih =>
    cases h' with
    | cons k1 k2 k3 k4 =>
      rw [g1] at k1; cases k1
      rw [g2] at k2; cases k2
      rw [g3] at k3; cases k3
      exact ih k4
section
variable {K : PySem.W.Frag} {mg : Str → Option Value} {H H' : Hp} {Ex : List (Addr × HO)} {rs ws : Roots}
theorem Opn.ch {o : O} {ho : HO} {vs : List V} {os : List O} (p : Opn mg o ho vs os) : chs o = os ∧ chV ho = vs ∧ (∀ s, cixV ho s = cix o s) ∧ ∀ j x, Opn mg (setC o j x) ho vs (os.set j x) := by
  cases p with
  | lst => exact ⟨rfl, rfl, fun s => by cases s <;> rfl, fun _ _ => .lst⟩
  | tup => exact ⟨rfl, rfl, fun s => by cases s <;> rfl, fun _ _ => .tup⟩
  | dK h => exact ⟨rfl, rfl, fun s => by cases s <;> first | rfl | simp only [cixV, cix, h.1], fun j x => by
      show Opn mg (.dK (setV _ j x)) _ _ _
      rw [← setV_vals]
      exact .dK (by rw [setV_keys]; exact h)⟩
  | dT h => exact ⟨rfl, rfl, fun s => by cases s <;> first | rfl | simp only [cixV, cix, h.1], fun j x => by
      show Opn mg (.dT (setV _ j x)) _ _ _
      rw [← setV_vals]
      exact .dT (by rw [setV_keys]; exact h)⟩
  | ins c h => exact ⟨rfl, rfl, fun s => by cases s <;> first | rfl | simp only [cixV, cix, h], fun j x => by
      show Opn mg (.ins _ (setV _ j x)) _ _ _
      rw [← setV_vals]
      exact .ins c (h.trans (setV_keys (j := j) (o := x)).symm)⟩
theorem permAt {α : Type} {l : List α} {j : Nat} (h : j < l.length) : l.Perm (l[j] :: l.eraseIdx j) := (permErase h).symm
theorem permSetP {α : Type} : ∀ {l : List α} {j : Nat} (h : j < l.length) (x : α), (l.set j x).Perm (x :: l.eraseIdx j)
  | _ :: _, 0, _, _ => .refl _
  | a :: l, j + 1, h, x => by
    simp only [List.set_cons_succ, List.eraseIdx_cons_succ]
    exact ((permSetP (l := l) (j := j) (by simpa using h) x).cons a).trans (.swap _ _ _)
theorem zipSetP : ∀ {vs : List V} {os : List O} {j : Nat} {v : V} {x : O}, vs[j]? = some v → vs.zip (os.set j x) = (vs.zip os).set j (v, x)
  | [], _, _, _, _, _ => by simp
  | _ :: _, [], j, _, _, _ => by simp
  | w :: vs, q :: os, 0, v, x, h => by
    simp only [List.getElem?_cons_zero, Option.some.injEq] at h
    subst h
    rfl
  | w :: vs, q :: os, j + 1, v, x, h => by
    simp only [List.getElem?_cons_succ] at h
    simp only [List.set_cons_succ, List.zip_cons_cons, zipSetP h]
theorem Rel.opn1 {v : V} {o x : O} {s : Sp1} (r : Rel K mg H Ex ((v, o) :: rs) ws) (h : sub1 o s = some x) : ∃ (a : Addr) (ho : HO) (j : Nat) (u : V) (r1 : Roots), v = .ref a ∧ H a = some ho ∧ cixV ho s = some j ∧ (chV ho)[j]? = some u ∧
    Rel K mg H ((a, ho) :: Ex) ((u, x) :: (r1 ++ rs)) ws ∧ ∀ (H' : Hp) (x' : O) (rs2 ws2 : Roots), Rel K mg H' ((a, ho) :: Ex) ((u, x') :: (r1 ++ rs2)) ws2 → Rel K mg H' Ex ((v, put1 o s x') :: rs2) ws2 ∧ H' a = some ho := by
  have hg : o.isG = false := by
    unfold sub1 at h
    split at h
    · rename_i j hj
      cases o <;> first | rfl | (cases s <;> simp [cix] at hj)
    · cases h
  obtain ⟨a, ho, vs, os, e1, e2, p, hl, r2⟩ := r.opn hg
  obtain ⟨c1, c2, c3, c4⟩ := p.ch
  unfold sub1 at h
  split at h
  · rename_i j hj
    rw [c1] at h
    obtain ⟨hlt, hx⟩ := List.getElem?_eq_some_iff.mp h
    have hlv : j < vs.length := by omega
    have hz : j < (vs.zip os).length := by rw [List.length_zip]; omega
    have e3 : (vs.zip os)[j] = (vs[j], x) := by simp [hx]
    refine ⟨a, ho, j, vs[j], (vs.zip os).eraseIdx j, e1, e2, (c3 s).trans hj, by rw [c2]; simp, ?_, fun H' x' rs2 ws2 r3 => ?_⟩
    · have p1 := permAt hz
      rw [e3] at p1
      exact r2.perm (p1.append_right _)
    · have ez : vs.zip (os.set j x') = (vs.zip os).set j (vs[j], x') := zipSetP (by simp)
      have p2 := permSetP hz (vs[j], x')
      rw [← ez] at p2
      have r4 := r3.perm ((p2.append_right rs2).symm)
      have hH : H' a = some ho := by
        obtain ⟨Hf, as, s, he, _⟩ := r4.ex
        exact he _ List.mem_cons_self
      subst e1
      refine ⟨?_, hH⟩
      unfold put1
      rw [hj]
      exact r4.shut (c4 j x') (by simp [hl])
  · cases h
theorem Rel.opnP : ∀ {π : Pth} {Ex : List (Addr × HO)} {rs : Roots} {v : V} {o x : O}, Rel K mg H Ex ((v, o) :: rs) ws → getP o π = some x → ∃ (w : V) (Ex' : List (Addr × HO)) (r1 : Roots), Wlk H v π w ∧
    Rel K mg H (Ex' ++ Ex) ((w, x) :: (r1 ++ rs)) ws ∧ ∀ (H' : Hp) (x' : O) (rs2 ws2 : Roots), Rel K mg H' (Ex' ++ Ex) ((w, x') :: (r1 ++ rs2)) ws2 → Rel K mg H' Ex ((v, setP o π x') :: rs2) ws2 ∧ Wlk H' v π w
  | [], Ex, rs, v, o, x, r, h => by
    simp only [getP, Option.some.injEq] at h
    subst h
    exact ⟨v, [], [], .nil, r, fun H' x' rs2 ws2 r2 => ⟨r2, .nil⟩⟩
  | s :: π, Ex, rs, v, o, x, r, h => by
    simp only [getP] at h
    split at h
    · rename_i y hy
      obtain ⟨a, ho, j, u, r1, e1, e2, e3, e4, r2, cl⟩ := r.opn1 hy
      obtain ⟨w, Ex', r1', w1, r3, cl2⟩ := Rel.opnP r2 h
      subst e1
      refine ⟨w, Ex' ++ [(a, ho)], r1' ++ r1, .cons e2 e3 e4 w1, ?_, fun H' x' rs2 ws2 r4 => ?_⟩
      · rw [List.append_assoc, List.append_assoc]
        exact r3
      · rw [List.append_assoc, List.append_assoc] at r4
        obtain ⟨r5, w5⟩ := cl2 H' x' _ _ r4
        obtain ⟨r6, h6⟩ := cl H' _ _ _ r5
        simp only [setP, hy]
        exact ⟨r6, .cons h6 e3 e4 w5⟩
    · cases h
end
def getPl (g : Gs) (i : Nat) (π : Pth) : Option O := match g[i]? with
  | some (some o) => getP o π
  | _ => none
def setPl (g : Gs) (i : Nat) (π : Pth) (x : O) : Gs := match g[i]? with
  | some (some o) => g.set i (some (setP o π x))
  | _ => g
section
variable {X : Cx} {W : WX} {pu pv pw : Bool} {H H' : Hp} {Ex : List (Addr × HO)} {σ σ' : L2.St} {g : Gs} {T T' ws ws' rs : Roots}
theorem At.opnP {i : Nat} {π : Pth} {x : O} {v : V} (a : At X H Ex σ g T ws) (h : getPl g i π = some x) (hv : σ[i]? = some (some v)) : ∃ (w : V) (Ex' : List (Addr × HO)) (r1 : Roots), Wlk H v π w ∧
    Rel X.K X.mg H (Ex' ++ Ex) ((w, x) :: (r1 ++ (roots σ (g.set i none) ++ T))) ws ∧ ∀ (H' : Hp) (x' : O) (T2 ws2 : Roots), Rel X.K X.mg H' (Ex' ++ Ex) ((w, x') :: (r1 ++ (roots σ (g.set i none) ++ T2))) ws2 → At X H' Ex σ (setPl g i π x') T2 ws2 ∧ Wlk H' v π w := by
  unfold getPl at h
  split at h
  · rename_i o ho
    obtain ⟨w, Ex', r1, w1, r2, cl⟩ := (a.get ho hv).opnP h
    refine ⟨w, Ex', r1, w1, r2, fun H' x' T2 ws2 r3 => ?_⟩
    obtain ⟨r4, w4⟩ := cl H' x' _ _ r3
    refine ⟨?_, w4⟩
    unfold setPl
    rw [ho]
    exact .put a.fit hv r4
  · cases h
end
end Z
namespace Z
open PySem PySem.Spec L2
/-- a key of a dict written -/
def putD {α β : Type} [DecidableEq α] (l : List (α × β)) (k : α) (o : β) : List (α × β) := match fix1 (l.map (·.1)) k with
  | some j => setV l j o
  | none => l ++ [(k, o)]
def plN (i : Nat) : M Pth := fun g => match g[i]? with
  | some (some _) => .ok [] g
  | _ => .bad
def plI (i : Nat) (m : M Pth) (mi : M O) : M Pth := M.bd m fun π => M.bd mi fun oi g => match oi with
  | .d (.int k) => match getPl g i π with
    | some (.lst os) => match ixN os.length k with
      | some j => .ok (π ++ [.idx j]) g
      | none => .bad
    | _ => .bad
  | _ => .bad
section
variable {X : Cx} {W : WX} {pu pv pw : Bool} {H H' : Hp} {Ex : List (Addr × HO)} {σ σ' : L2.St} {g : Gs} {T T' ws ws' rs : Roots} {e a b o lo hi : Expr} {es : List Expr} {m : M O} {mp : M Pth} {ms : M (List O)} {pos p p2 apos : Pos} {k j np : Nat} {x : Str}
/-- the object at a place -/
theorem At.atPl {i : Nat} {π : Pth} {x : O} {v w : V} (a : At X H Ex σ g T ws) (h : getPl g i π = some x) (hv : σ[i]? = some (some v)) (hw : Wlk H v π w) : ∃ (Ex' : List (Addr × HO)) (r1 : Roots),
    Rel X.K X.mg H (Ex' ++ Ex) ((w, x) :: (r1 ++ (roots σ (g.set i none) ++ T))) ws ∧ ∀ (H' : Hp) (x' : O) (T2 ws2 : Roots), Rel X.K X.mg H' (Ex' ++ Ex) ((w, x') :: (r1 ++ (roots σ (g.set i none) ++ T2))) ws2 → At X H' Ex σ (setPl g i π x') T2 ws2 ∧ Wlk H' v π w := by
  obtain ⟨w', Ex', r1, hw', r2, cl⟩ := a.opnP h hv
  cases hw.det hw'
  exact ⟨Ex', r1, r2, cl⟩
theorem At.ho {i : Nat} {π : Pth} {x : O} {v w : V} (a : At X H Ex σ g T ws) (h : getPl g i π = some x) (hv : σ[i]? = some (some v)) (hw : Wlk H v π w) (hg : x.isG = false) : ∃ (ad : Addr) (ho : HO) (vs : List V) (os : List O), w = .ref ad ∧ H ad = some ho ∧ Opn X.mg x ho vs os ∧ vs.length = os.length := by
  obtain ⟨Ex', r1, r2, cl⟩ := a.atPl h hv hw
  obtain ⟨ad, ho, vs, os, e1, e2, p, hl, _⟩ := r2.opn hg
  exact ⟨ad, ho, vs, os, e1, e2, p, hl⟩
end
end Z
namespace Z
open PySem PySem.Spec L2
def unfr : O → O
  | .fr o => o
  | o => o
def mkFr : O → O
  | .d x => .d x
  | .fr o => .fr o
  | o => .fr o
section
variable {K : PySem.W.Frag} {mg : Str → Option Value} {H H' : Hp} {Ex : List (Addr × HO)} {rs ws : Roots} {Hf : Fz}
theorem owFr {v : V} {o : O} {as : List Addr} (h : Ow K mg Hf Hf.h v o as) : Ow K mg Hf H v (mkFr o) [] := by
  cases h with
  | d h => exact .d h
  | fr n h => exact .fr n h
  | gL h t => exact .fr rfl (.gL h t)
  | gT h t => exact .fr rfl (.gT h t)
  | gD h k t => exact .fr rfl (.gD h k t)
  | gK h k t => exact .fr rfl (.gK h k t)
  | pin h => exact .fr rfl (.pin h)
  | mem h => exact .fr rfl (.mem h)
  | hole => exact .fr rfl .hole
  | jk => exact .fr rfl .jk
  | exc h c t => exact .fr rfl (.exc h c t)
  | lst h t => exact .fr rfl (.lst h t)
  | tup h t => exact .fr rfl (.tup h t)
  | dK h k t => exact .fr rfl (.dK h k t)
  | dT h k t => exact .fr rfl (.dT h k t)
  | ins h c k t => exact .fr rfl (.ins h c k t)
theorem owG {v : V} {o : O} {as : List Addr} (h : Ow K mg Hf H v o as) (g : o.isG = true) : as = [] := by
  cases h <;> first | rfl | cases g
/-- what is ground may be had -/
theorem Rel.ofViewG {v : V} {o : O} (r : Rel K mg H Ex rs ((v, o) :: ws)) (g : o.isG = true) : Rel K mg H Ex ((v, o) :: rs) ((v, o) :: ws) := by
  obtain ⟨Hf, as, s, he, ho, nd, hn, hw⟩ := r.ex
  obtain ⟨bs, h⟩ := hw _ List.mem_cons_self
  cases owG h g
  exact ⟨Hf, _, s, he, .cons (as := []) h ho, nd, hn, hw⟩
/-- what is owned stands still from now on -/
theorem Rel.still {v : V} {o : O} (r : Rel K mg H Ex ((v, o) :: rs) ws) : Rel K mg H Ex ((v, mkFr o) :: rs) ws := by
  obtain ⟨Hf, as, s, he, hob, nd, hnn, hw⟩ := r.ex
  cases hob with
  | cons h t =>
    rename_i a1 a2
    have sub : (Ex.map (·.1) ++ a2).Sublist (Ex.map (·.1) ++ (a1 ++ a2)) := (List.sublist_append_right a1 a2).append_left _
    have dj : ∀ a ∈ Ex.map (·.1) ++ a2, a ∉ a1 := fun a m m1 => by
      have hp : (Ex.map (·.1) ++ (a1 ++ a2)).Perm (a1 ++ (Ex.map (·.1) ++ a2)) := by
        rw [← List.append_assoc, ← List.append_assoc]
        exact List.perm_append_comm.append_right _
      have nd2 := hp.nodup_iff.mp nd
      exact (List.nodup_append.mp nd2).2.2 a m1 a m rfl
    have h2 : Ow K mg (frz Hf H a1) (frz Hf H a1).h v o a1 := owMono (frzSame s.same a1) h fun a m => frzAt m
    refine ⟨frz Hf H a1, a2, frzIn s a1 (fun a m => (hnn a (List.mem_append_right _ (List.mem_append_left _ m))).1.2), he, .cons (as := []) (owFr h2) (owLMono (frzSame s.same a1) t fun a m => rfl), nd.sublist sub, fun a m => ?_, fun p m => ?_⟩
    · exact ⟨frzNot (dj a m) (hnn a (sub.subset m)).1, (hnn a (sub.subset m)).2⟩
    · obtain ⟨bs, h⟩ := hw p m
      exact ⟨bs, owMono (frzSame s.same a1) h fun a m => rfl⟩
end
section
variable {X : Cx} {W : WX} {pu pv pw : Bool} {H H' : Hp} {Ex : List (Addr × HO)} {σ σ' : L2.St} {g : Gs} {T T' ws ws' rs : Roots} {e a b o lo hi : Expr} {es : List Expr} {m : M O} {mp : M Pth} {ms : M (List O)} {pos p p2 apos : Pos} {k j np : Nat} {x : Str}
def unM (m : M O) : M O := M.bd m fun o g => .ok (unfr o) g
/-- what is ground, seen, is had -/
def cpM (m : M O) : M O := M.bd m fun o g => if o.isG = true then .ok o g else .bad
theorem ev_cp (h : EvP X W pu e m) : Ev X W pu e (cpM m) := by
  obtain ⟨t, h1, h2⟩ := h.ex
  refine ⟨t, h1, fun σ H Q g T Ex ws a w => h2 σ H Q g T Ex ws a (w.bd.imp (fun o g' k v H' s a' => ?_) fun _ _ k => k)⟩
  split at k
  · rename_i hg
    refine k v H' s (.ofTop a'.fit ?_)
    exact (a'.rel.ofViewG hg).views fun p m => List.mem_cons_of_mem _ m
  · exact k.elim
def fldO (c f : Str) : O → Option O
  | .ins c' fs => if c' = c then match fix1 (fs.map (·.1)) f with
      | some j => (fs.map (·.2))[j]?
      | none => none
    else none
  | .fr (.ins c' fs) => if c' = c then match fix1 (fs.map (·.1)) f with
      | some j => match (fs.map (·.2))[j]? with
        | some x => some (mkFr x)
        | none => none
      | none => none
    else none
  | _ => none
def atM (c f : Str) (m : M O) : M O := M.bd m fun o g => match fldO c f o with
  | some x => .ok x g
  | none => .bad
end
end Z
namespace Z
open PySem PySem.Spec L2
section
variable {K : PySem.W.Frag} {mg : Str → Option Value} {H H' : Hp} {Ex : List (Addr × HO)} {rs ws : Roots}
theorem Rel.hole {ad : Addr} (r : Rel K mg H Ex rs ws) : Rel K mg H Ex ((.ref ad, .hole ad) :: rs) ws := by
  obtain ⟨Hf, as, s, he, ho, nd, hn, hw⟩ := r.ex
  exact ⟨Hf, as, s, he, .cons (as := []) .hole ho, nd, hn, hw⟩
end
def adr : V → Addr
  | .ref a => a
  | _ => 0
def ixSetPM (i : Nat) (mp : M Pth) (mi : M O) (x : O) : M Unit := M.bd mp fun π => M.bd mi fun oi g => match oi with
  | .d (.int z) => match getPl g i π with
    | some (.lst os) => match ixN os.length z with
      | some j => .ok () (setPl g i π (.lst (os.set j x)))
      | none => .bad
    | _ => .bad
  | _ => .bad
end Z
namespace Z
open PySem PySem.Spec L2
def elV : O → Int → Option O
  | .d (.list ds), i => (atI ds i).map O.d
  | .d (.tuple ds), i => (atI ds i).map O.d
  | .gL ds, i => (atI ds i).map O.d
  | .gT ds, i => (atI ds i).map O.d
  | .lst os, i => atI os i
  | .tup os, i => atI os i
  | .fr (.lst os), i => (atI os i).map mkFr
  | .fr (.tup os), i => (atI os i).map mkFr
  | _, _ => none
def lkD {α β : Type} [DecidableEq α] (l : List (α × β)) (k : α) : Option β := match fix1 (l.map (·.1)) k with
  | some j => (l.map (·.2))[j]?
  | none => none
def dKey : PyData → Option (Key ⊕ List Key)
  | .int i => some (.inl (.inl i))
  | .str s => some (.inl (.inr s))
  | .tuple ds => (intsOf ds).map fun is => .inr (kk is)
  | _ => none
def lkO : O → Key ⊕ List Key → Option (Option O)
  | .dK kos, .inl k => some (lkD kos k)
  | .dT kos, .inr k => some (lkD kos k)
  | .gD kds, .inr k => some ((lkD kds k).map O.d)
  | .gK kds, .inl k => some ((lkD kds k).map O.d)
  | .fr (.dK kos), .inl k => some ((lkD kos k).map mkFr)
  | .fr (.dT kos), .inr k => some ((lkD kos k).map mkFr)
  | _, _ => none
section
variable {X : Cx} {W : WX} {pu pv pw : Bool} {H H' : Hp} {Ex : List (Addr × HO)} {σ σ' : L2.St} {g : Gs} {T T' ws ws' rs : Roots} {e a b o lo hi d : Expr} {es : List Expr} {m md mk mx : M O} {mp : M Pth} {ms : M (List O)} {pos p p2 apos : Pos} {k j np : Nat} {x : Str}
def elF : List O → Option O
  | [o, .d (.int i)] => elV o i
  | _ => none
end
end Z
namespace Z
open PySem PySem.Spec L2
section
variable {K : PySem.W.Frag} {mg : Str → Option Value} {H H' : Hp} {Ex : List (Addr × HO)} {rs ws : Roots}
def zpD : List PyData → List PyData → List PyData
  | x :: xs, y :: ys => .tuple [x, y] :: zpD xs ys
  | _, _ => []
/-- no pair of two texts -/
def zpOk (xs ys : List PyData) : Bool := (zpD xs ys).all fun d => match d with
  | .tuple ds => !idxS ds
  | _ => true
end
def enLM (os : List O) : M (List PyData) := fun g => match os with
  | [.d (.list ds)] => .ok (enD 0 ds) g
  | _ => .bad
def zpM (os : List O) : M (List PyData) := fun g => match os with
  | [.d (.list xs), .d (.list ys)] => if zpOk xs ys = true then .ok (zpD xs ys) g else .bad
  | [.d (.tuple xs), .d (.tuple ys)] => if zpOk xs ys = true then .ok (zpD xs ys) g else .bad
  | _ => .bad
def isrt (ns : List Int) : List Int := ns.mergeSort fun a b => decide (a ≤ b)
def sortF : List O → Option O
  | [o] => match asL o with
    | some ds => match intsOf ds with
      | some ns => if ns.length < 64 then some (.lst (((isrt ns).map PyData.int).map O.d)) else none
      | none => none
    | none => none
  | _ => none
section
variable {X : Cx} {W : WX} {pu pv pw : Bool} {H H' : Hp} {Ex : List (Addr × HO)} {σ σ' : L2.St} {g : Gs} {T T' ws ws' rs : Roots} {e a b o lo hi d : Expr} {es : List Expr} {m md mk mx : M O} {mp : M Pth} {ms : M (List O)} {pos p p2 apos : Pos} {k j np : Nat} {x : Str}
def isNon : PyData → Bool
  | .none => true
  | _ => false
def isNF (neg : Bool) : List O → Option O
  | [.d x, .d .none] => some (.d (.bool (if neg then !isNon x else isNon x)))
  | [.exc _ _, .d .none] => some (.d (.bool neg))
  | _ => none
theorem isN_of {neg : Bool} {xs : List V} {os : List O} {z : O} (hl : xs.length = os.length) (r : Rel X.K X.mg H Ex rs (xs.zip os ++ ws)) (hf : isNF neg os = some z) : ∃ x, xs = [x, .non] ∧ z = .d (.bool (if neg then !decide (x = V.non) else decide (x = V.non))) := by
  unfold isNF at hf
  split at hf
  · rename_i d
    cases hf
    obtain ⟨x, y, rfl⟩ := two hl
    obtain ⟨Hf, s, hw, cl⟩ := r.fr
    obtain ⟨_, h1⟩ := hw _ zipHead
    obtain ⟨_, h2⟩ := hw _ zipSnd
    obtain rfl := owN h2
    refine ⟨x, rfl, ?_⟩
    have : isNon d = decide (x = V.non) := by
      cases h1 with
      | d h1 => cases h1 <;> simp [isNon]
    rw [this]
  · cases hf
    obtain ⟨x, y, rfl⟩ := two hl
    obtain ⟨Hf, s, hw, cl⟩ := r.fr
    obtain ⟨_, h1⟩ := hw _ zipHead
    obtain ⟨_, h2⟩ := hw _ zipSnd
    obtain rfl := owN h2
    refine ⟨x, rfl, ?_⟩
    have : decide (x = V.non) = false := by
      cases h1 with
      | exc _ _ _ => rfl
    rw [this]
    cases neg <;> rfl
  · cases hf
theorem pr_isN : PR X (r2L fun x y H Q => y = V.non ∧ Q (V.bl (decide (x = V.non))) H) (isNF false) := by
  intro xs os H Ex rs ws Q o hl r hf k
  obtain ⟨x, rfl, rfl⟩ := isN_of hl r hf
  exact ⟨rfl, k _ _ (Same.refl _) (r.data fun _ => .bl _)⟩
def dictO : O → Bool
  | .dK _ => true
  | .dT _ => true
  | .gD _ => true
  | .gK _ => true
  | .fr (.dK _) => true
  | .fr (.dT _) => true
  | _ => false
def getM (md mk mx : M O) : M O := M.bd md fun o g => if dictO o = true then (M.bd mk fun ok => M.bd mx fun ox g => match ok with
  | .d kd => match dKey kd with
    | some k => match lkO o k with
      | some (some z) => if z.isG = true then .ok z g else .bad
      | some none => .ok ox g
      | none => .bad
    | none => .bad
  | _ => .bad) g else .bad
end
end Z
namespace Z
open PySem PySem.Spec L2
section
variable {X : Cx} {W : WX} {pu pv pw : Bool} {H H' : Hp} {Ex : List (Addr × HO)} {σ σ' : L2.St} {g : Gs} {T T' ws ws' rs : Roots} {e a b o lo hi d : Expr} {es : List Expr} {m md mk mx : M O} {mp : M Pth} {ms : M (List O)} {pos p p2 apos : Pos} {k j np : Nat} {x : Str}
def nilO : List O → M Unit
  | [] => M.ret ()
  | _ => M.no
def conO (i : Nat) (f : List O → M Unit) : List O → M Unit
  | x :: r => M.bd (setM i x) fun _ => f r
  | _ => M.no
/-- a list that is had is taken apart -/
def unlG (f : List O → M Unit) : O → M Unit
  | .lst os => f os
  | _ => M.no
def tuoG (f : List O → M Unit) : O → M Unit
  | .tup os => f os
  | .d (.tuple ds) => f (ds.map O.d)
  | _ => M.no
def seeO (o : O) : O := if o.isG = true then o else .jk
def unpV (f : List O → M Unit) (m : M O) : M Fl := M.bd m fun o => match o with
  | .lst os => M.bd (f (os.map seeO)) fun _ => M.ret .next
  | _ => fun _ => .bad
/-- what stands at a name becomes data ahead of some statements -/
def ghF (i : Nat) (m : M Fl) : M Fl := fun g => match g[i]? with
  | some (some (.d _)) => m g
  | some (some o) => match o.fz with
    | some x => m (g.set i (some (.d x)))
    | none => .bad
  | _ => .bad
end
end Z
namespace G
open PySem PySem.Spec L2 Z
end G
namespace Z
open PySem PySem.Spec L2
class SeeC (os : List O) (os' : outParam (List O)) : Prop where
  eq : os.map seeO = os'
instance see0 : SeeC [] [] := ⟨rfl⟩
instance seeD {x : PyData} {os os' : List O} [h : SeeC os os'] : SeeC (.d x :: os) (.d x :: os') := ⟨by rw [List.map_cons, h.eq]; rfl⟩
instance seeF {x : O} {os os' : List O} [h : SeeC os os'] : SeeC (.fr x :: os) (.fr x :: os') := ⟨by rw [List.map_cons, h.eq]; rfl⟩
instance seeH {x : Addr} {os os' : List O} [h : SeeC os os'] : SeeC (.hole x :: os) (.hole x :: os') := ⟨by rw [List.map_cons, h.eq]; rfl⟩
instance seeL {x os os' : List O} [h : SeeC os os'] : SeeC (.lst x :: os) (.jk :: os') := ⟨by rw [List.map_cons, h.eq]; rfl⟩
instance (priority := 50) seeA {x : O} {os os' : List O} [h : SeeC os os'] : SeeC (x :: os) (seeO x :: os') := ⟨by rw [List.map_cons, h.eq]⟩
/-- the thing at a place in a row -/
class ElC (o : O) (i : Int) (z : outParam O) : Prop where
  eq : elV o i = some z
instance elcL {ds : List PyData} {i : Int} {x : PyData} [h : NthC ds i x] : ElC (.d (.list ds)) i (.d x) := ⟨by simp only [elV, h.eq]; rfl⟩
instance elcT {ds : List PyData} {i : Int} {x : PyData} [h : NthC ds i x] : ElC (.d (.tuple ds)) i (.d x) := ⟨by simp only [elV, h.eq]; rfl⟩
theorem atI_litO {α : Type} {ds : List α} {n : Nat} {x : α} (h : ds[n]? = some x) : atI ds (n : Int) = some x := by
  have hl := (List.getElem?_eq_some_iff.mp h).1
  unfold atI ixN
  rw [if_pos (by omega), if_pos (by omega)]
  simp [h]
instance elc0 {a : O} {r : List O} : ElC (.lst (a :: r)) 0 a := ⟨atI_litO (n := 0) rfl⟩
instance elc1 {a b : O} {r : List O} : ElC (.lst (a :: b :: r)) 1 b := ⟨atI_litO (n := 1) rfl⟩
instance elc2 {a b c : O} {r : List O} : ElC (.lst (a :: b :: c :: r)) 2 c := ⟨atI_litO (n := 2) rfl⟩
instance elt0 {a : O} {r : List O} : ElC (.tup (a :: r)) 0 a := ⟨atI_litO (n := 0) rfl⟩
instance elt1 {a b : O} {r : List O} : ElC (.tup (a :: b :: r)) 1 b := ⟨atI_litO (n := 1) rfl⟩
class UnfC (o : O) (o' : outParam O) : Prop where
  eq : unfr o = o'
instance unfD {x : PyData} : UnfC (.d x) (.d x) := ⟨rfl⟩
instance unfL {x : List O} : UnfC (.lst x) (.lst x) := ⟨rfl⟩
instance unfT {x : List O} : UnfC (.tup x) (.tup x) := ⟨rfl⟩
instance unfK {x : List (Key × O)} : UnfC (.dK x) (.dK x) := ⟨rfl⟩
instance unfKT {x : List (List Key × O)} : UnfC (.dT x) (.dT x) := ⟨rfl⟩
instance unfG {x : List (List Key × PyData)} : UnfC (.gD x) (.gD x) := ⟨rfl⟩
instance unfGK {x : List (Key × PyData)} : UnfC (.gK x) (.gK x) := ⟨rfl⟩
instance unfF {x : O} : UnfC (.fr x) x := ⟨rfl⟩
instance unfI {c : Str} {fs : List (Str × O)} : UnfC (.ins c fs) (.ins c fs) := ⟨rfl⟩
class GrC (o : O) : Prop where
  eq : o.isG = true
instance grD {x : PyData} : GrC (.d x) := ⟨rfl⟩
instance grF {x : O} : GrC (.fr x) := ⟨rfl⟩
instance grG {x : List (List Key × PyData)} : GrC (.gD x) := ⟨rfl⟩
instance grK {x : List (Key × PyData)} : GrC (.gK x) := ⟨rfl⟩
def UnK (A : O → Gs → Prop) (o : O) (g : Gs) : Prop := A (unfr o) g
def CpK (A : O → Gs → Prop) (o : O) (g : Gs) : Prop := o.isG = true ∧ A o g
def UnpK (f : List O → M Unit) (A : Fl → Gs → Prop) (B : Exn → Gs → Prop) : O → Gs → Prop
  | .lst os, g => Wp (f (os.map seeO) g) (fun _ g' => A .next g') B
  | _, _ => False
def PlIK (i : Nat) (π : Pth) (AP : Pth → Gs → Prop) : O → Gs → Prop
  | .d (.int k), g => ∃ os j, getPl g i π = some (.lst os) ∧ ixN os.length k = some j ∧ AP (π ++ [.idx j]) g
  | _, _ => False
def IsPK (i : Nat) (π : Pth) (x : O) (AU : Unit → Gs → Prop) : O → Gs → Prop
  | .d (.int k), g => ∃ os j, getPl g i π = some (.lst os) ∧ ixN os.length k = some j ∧ AU () (setPl g i π (.lst (os.set j x)))
  | _, _ => False
def GetR (A : O → Gs → Prop) (ox : O) (g : Gs) : Option O → Prop
  | some z => z.isG = true ∧ A z g
  | none => A ox g
theorem GetR.no {A : O → Gs → Prop} {ox : O} {g : Gs} (h : A ox g) : GetR A ox g none := h
theorem GetR.so {A : O → Gs → Prop} {ox z : O} {g : Gs} (hz : z.isG = true) (h : A z g) : GetR A ox g (some z) := ⟨hz, h⟩
def GetK (mk mx : M O) (A : O → Gs → Prop) (B : Exn → Gs → Prop) (o : O) (g : Gs) : Prop := dictO o = true ∧ Wp (mk g) (fun ok g1 => Wp (mx g1) (fun ox g2 => ∃ kd k r, ok = .d kd ∧ dKey kd = some k ∧ lkO o k = some r ∧ GetR A ox g2 r) B) B
section
variable {g g1 g' : Gs} {i : Nat} {os : List O}
instance takGD {as : List Arg} {x : List (List Key × PyData)} [p : Put g i none g1] [t : TakC as g1 os g'] : TakO as i (.gD x) g os g' := ⟨fun h => by rw [takeA, h]; simp only [p.put, t.eq]⟩
instance takGK {as : List Arg} {x : List (Key × PyData)} [p : Put g i none g1] [t : TakC as g1 os g'] : TakO as i (.gK x) g os g' := ⟨fun h => by rw [takeA, h]; simp only [p.put, t.eq]⟩
instance takFR {as : List Arg} {x : O} [p : Put g i none g1] [t : TakC as g1 os g'] : TakO as i (.fr x) g os g' := ⟨fun h => by rw [takeA, h]; simp only [p.put, t.eq]⟩
end
section
variable {g : Gs} {i j l : Nat} {os ps : List O} {o x y z : O}
theorem getPl_nil (h : g[i]? = some (some o)) : getPl g i [] = some o := by unfold getPl; rw [h]; rfl
theorem setPl_nil (h : g[i]? = some (some o)) : setPl g i [] x = g.set i (some x) := by unfold setPl; rw [h]; rfl
end
section
variable {A : O → Gs → Prop} {AU : Unit → Gs → Prop} {AF : Fl → Gs → Prop} {AP : Pth → Gs → Prop} {AD : List PyData → Gs → Prop} {B : Exn → Gs → Prop} {g g' : Gs} {m n md mk mx mi : M O} {mp : M Pth} {i : Nat} {o : O} {os os' : List O} {AO : O → Prop} {x : Int} {ds es : List PyData} {f : List O → M Unit}
instance s_unpV : Stp (Wp (unpV f m g) AF B) (Wp (m g) (UnpK f AF B) B) := ⟨fun h => by
  unfold unpV
  refine (wp_bd (m := m)).mpr (h.mono (fun o g1 q => ?_) fun _ _ z => z)
  cases o with
  | lst os => exact (wp_bd (m := f (os.map seeO))).mpr q
  | _ => exact q.elim⟩
instance s_unpK [c : SeeC os os'] : Stp (UnpK f AF B (.lst os) g) (Wp (f os' g) (fun _ g' => AF .next g') B) := ⟨fun h => by
  show Wp (f (os.map seeO) g) _ _
  rw [c.eq]; exact h⟩
instance s_conO [p : Put g i (some o) g'] : Stp (Wp (conO i f (o :: os) g) AU B) (Wp (f os g') AU B) := ⟨fun h => by
  show Wp (M.bd (setM i o) (fun _ => f os) g) AU B
  rw [wp_bd]
  exact z_set p.put h⟩
instance s_nilO : Stp (Wp (nilO [] g) AU B) (AU () g) := ⟨fun h => h⟩
instance s_unlG : Stp (Wp (unlG f (.lst os) g) AU B) (Wp (f os g) AU B) := ⟨fun h => h⟩
instance s_tuoG : Stp (Wp (tuoG f (.tup os) g) AU B) (Wp (f os g) AU B) := ⟨fun h => h⟩
instance s_tuoD [p : MpC ds os] : Stp (Wp (tuoG f (.d (.tuple ds)) g) AU B) (Wp (f os g) AU B) := ⟨fun h => by rw [← p.eq] at h; exact h⟩
instance o_el {z : O} [c : ElC o x z] : Stp (optW (elF [o, .d (.int x)]) AO) (AO z) := ⟨fun h => by
  have e : elF [o, .d (.int x)] = some z := c.eq
  rw [e]; exact h⟩
instance s_un : Stp (Wp (unM m g) A B) (Wp (m g) (UnK A) B) := ⟨fun h => by
  unfold unM
  exact (wp_bd (m := m)).mpr (h.mono (fun o g1 q => q) fun _ _ z => z)⟩
instance s_unK {o' : O} [c : UnfC o o'] : Stp (UnK A o g) (A o' g) := ⟨fun h => by unfold UnK; rw [c.eq]; exact h⟩
instance s_cp : Stp (Wp (cpM m g) A B) (Wp (m g) (CpK A) B) := ⟨fun h => by
  unfold cpM
  refine (wp_bd (m := m)).mpr (h.mono (fun o g1 q => ?_) fun _ _ z => z)
  rw [if_pos q.1]
  exact q.2⟩
instance s_cpK [c : GrC o] : Stp (CpK A o g) (A o g) := ⟨fun h => ⟨c.eq, h⟩⟩
instance s_plN [h : Get g i (some o)] : Stp (Wp (plN i g) AP B) (AP [] g) := ⟨fun k => by unfold plN; rw [h.get]; exact k⟩
instance s_plI : Stp (Wp (plI i mp mi g) AP B) (Wp (mp g) (fun π g1 => Wp (mi g1) (PlIK i π AP) B) B) := ⟨fun h => by
  unfold plI
  refine (wp_bd (m := mp)).mpr (h.mono (fun π g1 q => ?_) fun _ _ z => z)
  refine (wp_bd (m := mi)).mpr (q.mono (fun oi g2 q => ?_) fun _ _ z => z)
  unfold PlIK at q
  split at q
  · obtain ⟨os, j, h1, h2, h3⟩ := q
    simp only [h1, h2]
    exact h3
  · exact q.elim⟩
instance s_ixSetP {z : O} : Stp (Wp (ixSetPM i mp mi z g) AU B) (Wp (mp g) (fun π g1 => Wp (mi g1) (IsPK i π z AU) B) B) := ⟨fun h => by
  unfold ixSetPM
  refine (wp_bd (m := mp)).mpr (h.mono (fun π g1 q => ?_) fun _ _ z => z)
  refine (wp_bd (m := mi)).mpr (q.mono (fun oi g2 q => ?_) fun _ _ z => z)
  unfold IsPK at q
  split at q
  · obtain ⟨os, j, h1, h2, h3⟩ := q
    simp only [h1, h2]
    exact h3
  · exact q.elim⟩
instance s_get : Stp (Wp (getM md mk mx g) A B) (Wp (md g) (GetK mk mx A B) B) := ⟨fun h => by
  unfold getM
  refine (wp_bd (m := md)).mpr (h.mono (fun o g1 q => ?_) fun _ _ z => z)
  rw [if_pos q.1]
  refine (wp_bd (m := mk)).mpr (q.2.mono (fun ok g2 q => ?_) fun _ _ z => z)
  refine (wp_bd (m := mx)).mpr (q.mono (fun ox g3 q => ?_) fun _ _ z => z)
  obtain ⟨kd, k, r, rfl, e1, e2, q⟩ := q
  simp only [e1, e2]
  cases r with
  | none => exact q
  | some z => simp only; rw [if_pos q.1]; exact q.2⟩
instance s_ghD {x : PyData} {mf : M Fl} [h : Get g i (some (.d x))] : Stp (Wp (ghF i mf g) AF B) (Wp (mf g) AF B) := ⟨fun k => by unfold ghF; rw [h.get]; exact k⟩
instance s_enL : Stp (Wp (enLM [.d (.list ds)] g) AD B) (AD (enD 0 ds) g) := ⟨id⟩
instance s_zpL : Stp (Wp (zpM [.d (.list ds), .d (.list es)] g) AD B) (Sd (zpOk ds es = true) (AD (zpD ds es) g)) := ⟨fun h => by
  have e : zpM [.d (.list ds), .d (.list es)] g = .ok (zpD ds es) g := by simp only [zpM, h.1, if_true]
  rw [e]; exact h.2⟩
instance s_zpT : Stp (Wp (zpM [.d (.tuple ds), .d (.tuple es)] g) AD B) (Sd (zpOk ds es = true) (AD (zpD ds es) g)) := ⟨fun h => by
  have e : zpM [.d (.tuple ds), .d (.tuple es)] g = .ok (zpD ds es) g := by simp only [zpM, h.1, if_true]
  rw [e]; exact h.2⟩
instance o_sort {is : List Int} [l : LsC o ds] [q : ItsC ds is] : Stp (optW (sortF [o]) AO) (Sd (is.length < 64) (AO (.lst (((isrt is).map PyData.int).map O.d)))) := ⟨fun h => by
  have e : sortF [o] = some (.lst (((isrt is).map PyData.int).map O.d)) := by
    have := h.1
    simp only [sortF, l.eq, q.eq, intsOf_map, this, if_true]
  rw [e]; exact h.2⟩
instance o_isN {x : PyData} : Stp (optW (isNF false [.d x, .d .none]) AO) (AO (.d (.bool (isNon x)))) := ⟨id⟩
instance o_notN {x : PyData} : Stp (optW (isNF true [.d x, .d .none]) AO) (AO (.d (.bool (!isNon x)))) := ⟨id⟩
end
end Z
namespace G
open PySem PySem.Spec L2 Z
local macro_rules | `(tactic| bv_omega) => `(tactic| repeat (first | with_reducible refine Stp.go ?_ | ((with_reducible refine Sd.mk ?_ ?_); focus (first | assumption | omega | exact Nat.zero_le _ | exact mulC_l | exact mulC_r | (simp only [List.length_cons, List.length_nil, List.length_map, List.length_append, Z.len_app]; omega) | (simp only [List.length_map, List.length_append, List.length_cons, List.length_nil, Z.intsF_len] at *; omega) | with_unfolding_all exact rfl | (refine powC_of ?_; omega) | assumption | exact List.mem_cons_self)) | with_reducible refine IfK.dt (by decide) ?_ | with_reducible refine IfK.df (by decide) ?_))
local macro_rules | `(tactic| array_get_dec) => `(tactic| repeat ((fail_if_success (with_reducible refine isJn ?_)); (first | with_reducible refine Stp.go ?_ | ((with_reducible refine Sd.mk ?_ ?_); focus (first | assumption | omega | exact Nat.zero_le _ | exact mulC_l | exact mulC_r | (simp only [List.length_cons, List.length_nil, List.length_map, List.length_append, Z.len_app]; omega) | (simp only [List.length_map, List.length_append, List.length_cons, List.length_nil, Z.intsF_len] at *; omega) | with_unfolding_all exact rfl | (refine powC_of ?_; omega) | assumption | exact List.mem_cons_self)) | with_reducible refine IfK.dt (by decide) ?_ | with_reducible refine IfK.df (by decide) ?_)))
local macro_rules | `(tactic| array_mem_dec) => `(tactic| (repeat' (first | (first | with_reducible refine Stp.go ?_ | ((with_reducible refine Sd.mk ?_ ?_); focus (first | assumption | omega | exact Nat.zero_le _ | exact mulC_l | exact mulC_r | (simp only [List.length_cons, List.length_nil, List.length_map, List.length_append, Z.len_app]; omega) | (simp only [List.length_map, List.length_append, List.length_cons, List.length_nil, Z.intsF_len] at *; omega) | with_unfolding_all exact rfl | (refine powC_of ?_; omega) | assumption | exact List.mem_cons_self)) | with_reducible refine IfK.dt (by decide) ?_ | with_reducible refine IfK.df (by decide) ?_) | refine IfK.dec (fun _ => ?_) (fun _ => ?_) | (refine CndK.mk ?_; first | rfl | (simp [*]; done) | (simp; omega) | (simp at *; done) | (simp at *; simp [*]; done) | (simp at *; omega)))))
local macro_rules | `(tactic| sizeOf_list_dec) => `(tactic| repeat ((fail_if_success (first | with_reducible refine isLc ?_ | with_reducible refine isFor ?_)); (first | with_reducible refine Stp.go ?_ | ((with_reducible refine Sd.mk ?_ ?_); focus (first | assumption | omega | exact Nat.zero_le _ | exact mulC_l | exact mulC_r | (simp only [List.length_cons, List.length_nil, List.length_map, List.length_append, Z.len_app]; omega) | (simp only [List.length_map, List.length_append, List.length_cons, List.length_nil, Z.intsF_len] at *; omega) | with_unfolding_all exact rfl | (refine powC_of ?_; omega) | assumption | exact List.mem_cons_self)) | with_reducible refine IfK.dt (by decide) ?_ | with_reducible refine IfK.df (by decide) ?_)))
theorem sh_ints (is : List Int) : SeqAt.shaped (.list (is.map PyData.int)) = true := Sh.shaped (d := 2) (Sh.lst fun x hx => by
  obtain ⟨i, _, rfl⟩ := List.mem_map.mp hx
  exact Sh.int) (by omega)
theorem eqv_ints0 (is : List Int) : PyData.eqv (.list (is.map PyData.int)) (.list []) = decide (is = []) := by
  cases is with
  | nil => simp [PyData.eqv, PyData.eqvAll]
  | cons a r => simp [PyData.eqv, PyData.eqvAll]
instance o_eqL0 {os : List O} {ds : List PyData} {is : List Int} [a : AllC os ds] [q : ItsC ds is] {AO : O → Prop} : Stp (optW (eqF [.lst os, .lst []]) AO) (AO (.d (.bool (decide (is = []))))) := ⟨fun h => by
  have e1 : (O.lst os).fz = some (.list (is.map PyData.int)) := by simp only [O.fz, allDFz a.eq, q.eq]
  have e : eqF [.lst os, .lst []] = some (.d (.bool (decide (is = [])))) := by
    simp only [eqF, eqB_D e1 (b := .lst []) (y := .list []) rfl (sh_ints is) (sh_ints []), eqv_ints0]
  rw [e]; exact h⟩
instance o_neL0 {os : List O} {ds : List PyData} {is : List Int} [a : AllC os ds] [q : ItsC ds is] {AO : O → Prop} : Stp (optW (neF [.lst os, .lst []]) AO) (AO (.d (.bool (!decide (is = []))))) := ⟨fun h => by
  have e1 : (O.lst os).fz = some (.list (is.map PyData.int)) := by simp only [O.fz, allDFz a.eq, q.eq]
  have e : neF [.lst os, .lst []] = some (.d (.bool (!decide (is = [])))) := by
    simp only [neF, eqB_D e1 (b := .lst []) (y := .list []) rfl (sh_ints is) (sh_ints []), eqv_ints0]
  rw [e]; exact h⟩
instance o_neL0D {ds : List PyData} {is : List Int} [q : ItsC ds is] {AO : O → Prop} : Stp (optW (neF [.d (.list ds), .lst []]) AO) (AO (.d (.bool (!decide (is = []))))) := ⟨fun h => by
  have e : neF [.d (.list ds), .lst []] = some (.d (.bool (!decide (is = [])))) := by
    simp only [neF, eqB_D (a := .d (.list ds)) (x := .list (is.map PyData.int)) (by rw [q.eq]; rfl) (b := .lst []) (y := .list []) rfl (sh_ints is) (sh_ints []), eqv_ints0]
  rw [e]; exact h⟩
instance itsApp {a b : List PyData} {x y : List Int} [p : ItsC a x] [q : ItsC b y] : ItsC (a ++ b) (x ++ y) := ⟨by rw [List.map_append, ← p.eq, ← q.eq]⟩
structure Rm where
  n : Nat
  st : List Int
  mv : O
structure Rm.Ok (b : Book) (r : Rm) : Prop where
  n : r.n < 2 ^ b.asks.length
  st : ∀ e ∈ r.st, 0 ≤ e ∧ e < b.deeds.length
  len : r.st.length ≤ 3
end G
namespace G
open PySem PySem.Spec L2 Z
local macro_rules | `(tactic| bv_omega) => `(tactic| repeat (first | with_reducible refine Stp.go ?_ | ((with_reducible refine Sd.mk ?_ ?_); focus (first | assumption | omega | exact Nat.zero_le _ | exact mulC_l | exact mulC_r | (simp only [List.length_cons, List.length_nil, List.length_map, List.length_append, Z.len_app]; omega) | (simp only [List.length_map, List.length_append, List.length_cons, List.length_nil, Z.intsF_len] at *; omega) | with_unfolding_all exact rfl | (refine powC_of ?_; omega) | assumption | exact List.mem_cons_self)) | with_reducible refine IfK.dt (by decide) ?_ | with_reducible refine IfK.df (by decide) ?_))
local macro_rules | `(tactic| array_get_dec) => `(tactic| repeat ((fail_if_success (with_reducible refine isJn ?_)); (first | with_reducible refine Stp.go ?_ | ((with_reducible refine Sd.mk ?_ ?_); focus (first | assumption | omega | exact Nat.zero_le _ | exact mulC_l | exact mulC_r | (simp only [List.length_cons, List.length_nil, List.length_map, List.length_append, Z.len_app]; omega) | (simp only [List.length_map, List.length_append, List.length_cons, List.length_nil, Z.intsF_len] at *; omega) | with_unfolding_all exact rfl | (refine powC_of ?_; omega) | assumption | exact List.mem_cons_self)) | with_reducible refine IfK.dt (by decide) ?_ | with_reducible refine IfK.df (by decide) ?_)))
local macro_rules | `(tactic| array_mem_dec) => `(tactic| (repeat' (first | (first | with_reducible refine Stp.go ?_ | ((with_reducible refine Sd.mk ?_ ?_); focus (first | assumption | omega | exact Nat.zero_le _ | exact mulC_l | exact mulC_r | (simp only [List.length_cons, List.length_nil, List.length_map, List.length_append, Z.len_app]; omega) | (simp only [List.length_map, List.length_append, List.length_cons, List.length_nil, Z.intsF_len] at *; omega) | with_unfolding_all exact rfl | (refine powC_of ?_; omega) | assumption | exact List.mem_cons_self)) | with_reducible refine IfK.dt (by decide) ?_ | with_reducible refine IfK.df (by decide) ?_) | refine IfK.dec (fun _ => ?_) (fun _ => ?_) | (refine CndK.mk ?_; first | rfl | (simp [*]; done) | (simp; omega) | (simp at *; done) | (simp at *; simp [*]; done) | (simp at *; omega)))))
local macro_rules | `(tactic| sizeOf_list_dec) => `(tactic| repeat ((fail_if_success (first | with_reducible refine isLc ?_ | with_reducible refine isFor ?_)); (first | with_reducible refine Stp.go ?_ | ((with_reducible refine Sd.mk ?_ ?_); focus (first | assumption | omega | exact Nat.zero_le _ | exact mulC_l | exact mulC_r | (simp only [List.length_cons, List.length_nil, List.length_map, List.length_append, Z.len_app]; omega) | (simp only [List.length_map, List.length_append, List.length_cons, List.length_nil, Z.intsF_len] at *; omega) | with_unfolding_all exact rfl | (refine powC_of ?_; omega) | assumption | exact List.mem_cons_self)) | with_reducible refine IfK.dt (by decide) ?_ | with_reducible refine IfK.df (by decide) ?_)))
def natT (l : List Nat) : PyData := .tuple (l.map fun (x : Nat) => PyData.int (x : Int))
structure Wld where
  many : Nat
  moves : List (List Nat)
  yes : List (List Nat)
def Wld.d (w : Wld) : PyData := .tuple [.int w.many, .tuple (w.moves.map natT), .tuple (w.yes.map natT)]
structure Wld.Ok (b : Book) (w : Wld) : Prop where
  pos : 0 < w.many
  le : w.many ≤ 6
  mvL : w.moves.length = b.deeds.length
  mv : ∀ r ∈ w.moves, r.length = w.many ∧ ∀ x ∈ r, x < w.many
  yesL : w.yes.length = b.asks.length
  yes : ∀ r ∈ w.yes, r.Pairwise (· < ·) ∧ ∀ x ∈ r, x < w.many
structure Fr where
  n : Nat
  st : List Int
  mv : List Nat
def Fr.d (f : Fr) : PyData := .list [.int f.n, .list (f.st.map PyData.int), .list (f.mv.map fun (x : Nat) => PyData.int (x : Int))]
end G
namespace G
open PySem PySem.Spec L2 Z
local macro_rules | `(tactic| bv_omega) => `(tactic| repeat (first | with_reducible refine Stp.go ?_ | ((with_reducible refine Sd.mk ?_ ?_); focus (first | assumption | omega | exact Nat.zero_le _ | exact mulC_l | exact mulC_r | (simp only [List.length_cons, List.length_nil, List.length_map, List.length_append, Z.len_app]; omega) | (simp only [List.length_map, List.length_append, List.length_cons, List.length_nil, Z.intsF_len] at *; omega) | with_unfolding_all exact rfl | (refine powC_of ?_; omega) | assumption | exact List.mem_cons_self)) | with_reducible refine IfK.dt (by decide) ?_ | with_reducible refine IfK.df (by decide) ?_))
local macro_rules | `(tactic| array_get_dec) => `(tactic| repeat ((fail_if_success (with_reducible refine isJn ?_)); (first | with_reducible refine Stp.go ?_ | ((with_reducible refine Sd.mk ?_ ?_); focus (first | assumption | omega | exact Nat.zero_le _ | exact mulC_l | exact mulC_r | (simp only [List.length_cons, List.length_nil, List.length_map, List.length_append, Z.len_app]; omega) | (simp only [List.length_map, List.length_append, List.length_cons, List.length_nil, Z.intsF_len] at *; omega) | with_unfolding_all exact rfl | (refine powC_of ?_; omega) | assumption | exact List.mem_cons_self)) | with_reducible refine IfK.dt (by decide) ?_ | with_reducible refine IfK.df (by decide) ?_)))
local macro_rules | `(tactic| array_mem_dec) => `(tactic| (repeat' (first | (first | with_reducible refine Stp.go ?_ | ((with_reducible refine Sd.mk ?_ ?_); focus (first | assumption | omega | exact Nat.zero_le _ | exact mulC_l | exact mulC_r | (simp only [List.length_cons, List.length_nil, List.length_map, List.length_append, Z.len_app]; omega) | (simp only [List.length_map, List.length_append, List.length_cons, List.length_nil, Z.intsF_len] at *; omega) | with_unfolding_all exact rfl | (refine powC_of ?_; omega) | assumption | exact List.mem_cons_self)) | with_reducible refine IfK.dt (by decide) ?_ | with_reducible refine IfK.df (by decide) ?_) | refine IfK.dec (fun _ => ?_) (fun _ => ?_) | (refine CndK.mk ?_; first | rfl | (simp [*]; done) | (simp; omega) | (simp at *; done) | (simp at *; simp [*]; done) | (simp at *; omega)))))
local macro_rules | `(tactic| sizeOf_list_dec) => `(tactic| repeat ((fail_if_success (first | with_reducible refine isLc ?_ | with_reducible refine isFor ?_)); (first | with_reducible refine Stp.go ?_ | ((with_reducible refine Sd.mk ?_ ?_); focus (first | assumption | omega | exact Nat.zero_le _ | exact mulC_l | exact mulC_r | (simp only [List.length_cons, List.length_nil, List.length_map, List.length_append, Z.len_app]; omega) | (simp only [List.length_map, List.length_append, List.length_cons, List.length_nil, Z.intsF_len] at *; omega) | with_unfolding_all exact rfl | (refine powC_of ?_; omega) | assumption | exact List.mem_cons_self)) | with_reducible refine IfK.dt (by decide) ?_ | with_reducible refine IfK.df (by decide) ?_)))
theorem bitsSum_lt (p : Nat → Bool) : ∀ N : Nat, (((List.range N).filter p).map fun n => 2 ^ n).sum < 2 ^ N
  | 0 => by simp
  | N + 1 => by
    have ih := bitsSum_lt p N
    rw [List.range_succ, List.filter_append, List.map_append, List.sum_append]
    have : (([N].filter p).map fun n => 2 ^ n).sum ≤ 2 ^ N := by
      by_cases h : p N <;> simp [h]
    rw [Nat.pow_succ]
    omega
theorem bitsSum_bit (p : Nat → Bool) : ∀ {N a : Nat}, (((List.range N).filter p).map fun n => 2 ^ n).sum.testBit a = (decide (a < N) && p a)
  | 0, a => by simp
  | N + 1, a => by
    have ih := @bitsSum_bit p N a
    have hlt := bitsSum_lt p N
    rw [List.range_succ, List.filter_append, List.map_append, List.sum_append]
    by_cases h : p N
    · have e : (([N].filter p).map fun n => 2 ^ n).sum = 2 ^ N := by simp [h]
      rw [e, Nat.add_comm]
      by_cases q : a = N
      · subst q
        rw [Nat.testBit_two_pow_add_eq, Nat.testBit_lt_two_pow hlt]
        simp [h]
      · by_cases q2 : a < N
        · rw [Nat.testBit_two_pow_add_gt q2, ih]
          have : a < N + 1 := by omega
          simp [q2, this]
        · have q3 : N + 1 ≤ a := by omega
          rw [Nat.testBit_lt_two_pow (Nat.lt_of_lt_of_le (show 2 ^ N + _ < 2 ^ (N + 1) by rw [Nat.pow_succ]; omega) (Nat.pow_le_pow_right (by decide) q3))]
          have : ¬ a < N + 1 := by omega
          simp [this]
    · have e : (([N].filter p).map fun n => 2 ^ n).sum = 0 := by simp [h]
      rw [e, Nat.add_zero, ih]
      by_cases q : a = N
      · subst q; simp [h]
      · have : (a < N + 1) = (a < N) := by apply propext; omega
        simp [this]
theorem bitI_nat (n k : Nat) : bitI n k = n.testBit k := by
  unfold bitI
  rw [Nat.testBit_eq_decide_div_mod_eq]
  have : ((n : Int) / 2 ^ k % 2 = 1) = (n / 2 ^ k % 2 = 1) := by
    apply propext
    have e : ((n : Int) / 2 ^ k % 2) = ((n / 2 ^ k % 2 : Nat) : Int) := by
      simp
    rw [e]; omega
  simp only [this]
def Wld.ans (w : Wld) (x : Nat) : Nat := ((w.yes.zipIdx).map fun p => if x ∈ p.1 then 2 ^ p.2 else 0).sum
theorem ansEq (x : Nat) : ∀ (l : List (List Nat)) (k : Nat), ((l.zipIdx k).map fun p => if x ∈ p.1 then 2 ^ p.2 else 0).sum = (((List.range l.length).filter fun i => decide (x ∈ l.getD i [])).map fun i => 2 ^ (k + i)).sum
  | [], k => by simp
  | r :: t, k => by
    rw [List.zipIdx_cons, List.map_cons, List.sum_cons, ansEq x t (k + 1), List.length_cons, List.range_succ_eq_map, List.filter_cons]
    have e : ((((List.range t.length).map Nat.succ).filter fun i => decide (x ∈ (r :: t).getD i [])).map fun i => 2 ^ (k + i)) = ((List.range t.length).filter fun i => decide (x ∈ t.getD i [])).map fun i => 2 ^ (k + 1 + i) := by
      rw [List.filter_map, List.map_map]
      refine List.map_congr_left fun i _ => ?_
      simp only [Function.comp]
      congr 1
      omega
    by_cases h : x ∈ r
    · simp only [h, if_true]
      have h2 : decide (x ∈ (r :: t).getD 0 []) = true := by simpa using h
      simp only [h2, if_true, List.map_cons, List.sum_cons, e, Nat.add_zero]
    · simp only [h, if_false]
      have h2 : decide (x ∈ (r :: t).getD 0 []) = false := by simpa using h
      simp only [h2, Bool.false_eq_true, if_false, e]
      omega
theorem ans_law (w : Wld) (x : Nat) : w.ans x = (((List.range w.yes.length).filter fun i => decide (x ∈ w.yes.getD i [])).map fun i => 2 ^ i).sum := by
  unfold Wld.ans
  rw [ansEq]
  congr 2
  funext i
  congr 1
  omega
theorem ans_bit (w : Wld) (x k : Nat) : bitI (w.ans x) k = (decide (k < w.yes.length) && decide (x ∈ w.yes.getD k [])) := by
  rw [bitI_nat, ans_law, bitsSum_bit]
instance itsNat {l : List Nat} : ItsC (l.map fun (x : Nat) => PyData.int (x : Int)) (l.map fun (x : Nat) => (x : Int)) := ⟨by rw [List.map_map]; rfl⟩
instance ltNat {l : List Nat} : LtC (.d (natT l)) (l.map fun (x : Nat) => PyData.int (x : Int)) := ⟨rfl⟩
instance itNat {l : List Nat} {AD : List PyData → Gs → Prop} {B : Exn → Gs → Prop} {g : Gs} : Stp (Wp (itemsM (.d (natT l)) g) AD B) (AD (l.map fun (x : Nat) => PyData.int (x : Int)) g) := ⟨fun h => h⟩
instance lt_wld {w : Wld} : LtC (.d w.d) [.int w.many, .tuple (w.moves.map natT), .tuple (w.yes.map natT)] := ⟨rfl⟩
end G
namespace G
open PySem PySem.Spec L2 Z
local macro_rules | `(tactic| bv_omega) => `(tactic| repeat (first | with_reducible refine Stp.go ?_ | ((with_reducible refine Sd.mk ?_ ?_); focus (first | assumption | omega | exact Nat.zero_le _ | exact mulC_l | exact mulC_r | (simp only [List.length_cons, List.length_nil, List.length_map, List.length_append, Z.len_app]; omega) | (simp only [List.length_map, List.length_append, List.length_cons, List.length_nil, Z.intsF_len] at *; omega) | with_unfolding_all exact rfl | (refine powC_of ?_; omega) | assumption | exact List.mem_cons_self)) | with_reducible refine IfK.dt (by decide) ?_ | with_reducible refine IfK.df (by decide) ?_))
local macro_rules | `(tactic| array_get_dec) => `(tactic| repeat ((fail_if_success (with_reducible refine isJn ?_)); (first | with_reducible refine Stp.go ?_ | ((with_reducible refine Sd.mk ?_ ?_); focus (first | assumption | omega | exact Nat.zero_le _ | exact mulC_l | exact mulC_r | (simp only [List.length_cons, List.length_nil, List.length_map, List.length_append, Z.len_app]; omega) | (simp only [List.length_map, List.length_append, List.length_cons, List.length_nil, Z.intsF_len] at *; omega) | with_unfolding_all exact rfl | (refine powC_of ?_; omega) | assumption | exact List.mem_cons_self)) | with_reducible refine IfK.dt (by decide) ?_ | with_reducible refine IfK.df (by decide) ?_)))
local macro_rules | `(tactic| array_mem_dec) => `(tactic| (repeat' (first | (first | with_reducible refine Stp.go ?_ | ((with_reducible refine Sd.mk ?_ ?_); focus (first | assumption | omega | exact Nat.zero_le _ | exact mulC_l | exact mulC_r | (simp only [List.length_cons, List.length_nil, List.length_map, List.length_append, Z.len_app]; omega) | (simp only [List.length_map, List.length_append, List.length_cons, List.length_nil, Z.intsF_len] at *; omega) | with_unfolding_all exact rfl | (refine powC_of ?_; omega) | assumption | exact List.mem_cons_self)) | with_reducible refine IfK.dt (by decide) ?_ | with_reducible refine IfK.df (by decide) ?_) | refine IfK.dec (fun _ => ?_) (fun _ => ?_) | (refine CndK.mk ?_; first | rfl | (simp [*]; done) | (simp; omega) | (simp at *; done) | (simp at *; simp [*]; done) | (simp at *; omega)))))
local macro_rules | `(tactic| sizeOf_list_dec) => `(tactic| repeat ((fail_if_success (first | with_reducible refine isLc ?_ | with_reducible refine isFor ?_)); (first | with_reducible refine Stp.go ?_ | ((with_reducible refine Sd.mk ?_ ?_); focus (first | assumption | omega | exact Nat.zero_le _ | exact mulC_l | exact mulC_r | (simp only [List.length_cons, List.length_nil, List.length_map, List.length_append, Z.len_app]; omega) | (simp only [List.length_map, List.length_append, List.length_cons, List.length_nil, Z.intsF_len] at *; omega) | with_unfolding_all exact rfl | (refine powC_of ?_; omega) | assumption | exact List.mem_cons_self)) | with_reducible refine IfK.dt (by decide) ?_ | with_reducible refine IfK.df (by decide) ?_)))
def Wld.row (w : Wld) (p : Nat) : List Nat := w.moves.getD p []
def Wld.mv (w : Wld) (p x : Nat) : Nat := (w.row p).getD x 0
def Wld.say (w : Wld) (q x : Nat) : Bool := decide (x ∈ w.yes.getD q [])
def Fact.hold (b : Book) (w : Wld) : Fact → Nat → Bool
  | .keeps p q, x => decide (w.say (b.asks.idxOf q) x = w.say (b.asks.idxOf q) (w.mv (b.deeds.idxOf p) x))
  | .makes p q v, x => decide (w.say (b.asks.idxOf q) (w.mv (b.deeds.idxOf p) x) = v)
  | .rests p r, x => decide (w.mv (b.deeds.idxOf r) (w.mv (b.deeds.idxOf p) x) = w.mv (b.deeds.idxOf p) x)
  | .idles q v p, x => !decide (w.say (b.asks.idxOf q) x = v) || decide (w.mv (b.deeds.idxOf p) x = x)
  | .still p, x => decide (w.mv (b.deeds.idxOf p) x = x)
  | .never t, x => !(t.so b.asks (w.ans x))
def Fact.kept (b : Book) (w : Wld) (f : Fact) : Bool := (List.range w.many).all fun x => f.hold b w x
theorem getD_lt {α : Type} {d : α} {l : List α} {i : Nat} (h : i < l.length) : l.getD i d = l[i] := by
  rw [List.getD_eq_getElem?_getD, List.getElem?_eq_getElem h]; rfl
theorem Wld.Ok.row {b : Book} {w : Wld} (hw : w.Ok b) {p : Nat} (hp : p < b.deeds.length) : (w.row p).length = w.many ∧ ∀ x ∈ w.row p, x < w.many := by
  unfold Wld.row
  rw [getD_lt (by rw [hw.mvL]; exact hp)]
  exact hw.mv _ (List.getElem_mem _)
theorem Wld.Ok.mv_lt {b : Book} {w : Wld} (hw : w.Ok b) {p x : Nat} (hp : p < b.deeds.length) (hx : x < w.many) : w.mv p x < w.many := by
  have h := hw.row hp
  unfold Wld.mv
  rw [getD_lt (by rw [h.1]; exact hx)]
  exact h.2 _ (List.getElem_mem _)
end G
namespace G
open PySem PySem.Spec L2 Z
local macro_rules | `(tactic| bv_omega) => `(tactic| repeat (first | with_reducible refine Stp.go ?_ | ((with_reducible refine Sd.mk ?_ ?_); focus (first | assumption | omega | exact Nat.zero_le _ | exact mulC_l | exact mulC_r | (simp only [List.length_cons, List.length_nil, List.length_map, List.length_append, Z.len_app]; omega) | (simp only [List.length_map, List.length_append, List.length_cons, List.length_nil, Z.intsF_len] at *; omega) | with_unfolding_all exact rfl | (refine powC_of ?_; omega) | assumption | exact List.mem_cons_self)) | with_reducible refine IfK.dt (by decide) ?_ | with_reducible refine IfK.df (by decide) ?_))
local macro_rules | `(tactic| array_get_dec) => `(tactic| repeat ((fail_if_success (with_reducible refine isJn ?_)); (first | with_reducible refine Stp.go ?_ | ((with_reducible refine Sd.mk ?_ ?_); focus (first | assumption | omega | exact Nat.zero_le _ | exact mulC_l | exact mulC_r | (simp only [List.length_cons, List.length_nil, List.length_map, List.length_append, Z.len_app]; omega) | (simp only [List.length_map, List.length_append, List.length_cons, List.length_nil, Z.intsF_len] at *; omega) | with_unfolding_all exact rfl | (refine powC_of ?_; omega) | assumption | exact List.mem_cons_self)) | with_reducible refine IfK.dt (by decide) ?_ | with_reducible refine IfK.df (by decide) ?_)))
local macro_rules | `(tactic| array_mem_dec) => `(tactic| (repeat' (first | (first | with_reducible refine Stp.go ?_ | ((with_reducible refine Sd.mk ?_ ?_); focus (first | assumption | omega | exact Nat.zero_le _ | exact mulC_l | exact mulC_r | (simp only [List.length_cons, List.length_nil, List.length_map, List.length_append, Z.len_app]; omega) | (simp only [List.length_map, List.length_append, List.length_cons, List.length_nil, Z.intsF_len] at *; omega) | with_unfolding_all exact rfl | (refine powC_of ?_; omega) | assumption | exact List.mem_cons_self)) | with_reducible refine IfK.dt (by decide) ?_ | with_reducible refine IfK.df (by decide) ?_) | refine IfK.dec (fun _ => ?_) (fun _ => ?_) | (refine CndK.mk ?_; first | rfl | (simp [*]; done) | (simp; omega) | (simp at *; done) | (simp at *; simp [*]; done) | (simp at *; omega)))))
local macro_rules | `(tactic| sizeOf_list_dec) => `(tactic| repeat ((fail_if_success (first | with_reducible refine isLc ?_ | with_reducible refine isFor ?_)); (first | with_reducible refine Stp.go ?_ | ((with_reducible refine Sd.mk ?_ ?_); focus (first | assumption | omega | exact Nat.zero_le _ | exact mulC_l | exact mulC_r | (simp only [List.length_cons, List.length_nil, List.length_map, List.length_append, Z.len_app]; omega) | (simp only [List.length_map, List.length_append, List.length_cons, List.length_nil, Z.intsF_len] at *; omega) | with_unfolding_all exact rfl | (refine powC_of ?_; omega) | assumption | exact List.mem_cons_self)) | with_reducible refine IfK.dt (by decide) ?_ | with_reducible refine IfK.df (by decide) ?_)))
end G
namespace G
open PySem PySem.Spec L2 Z
local macro_rules | `(tactic| bv_omega) => `(tactic| repeat (first | with_reducible refine Stp.go ?_ | ((with_reducible refine Sd.mk ?_ ?_); focus (first | assumption | omega | exact Nat.zero_le _ | exact mulC_l | exact mulC_r | (simp only [List.length_cons, List.length_nil, List.length_map, List.length_append, Z.len_app]; omega) | (simp only [List.length_map, List.length_append, List.length_cons, List.length_nil, Z.intsF_len] at *; omega) | with_unfolding_all exact rfl | (refine powC_of ?_; omega) | assumption | exact List.mem_cons_self)) | with_reducible refine IfK.dt (by decide) ?_ | with_reducible refine IfK.df (by decide) ?_))
local macro_rules | `(tactic| array_get_dec) => `(tactic| repeat ((fail_if_success (with_reducible refine isJn ?_)); (first | with_reducible refine Stp.go ?_ | ((with_reducible refine Sd.mk ?_ ?_); focus (first | assumption | omega | exact Nat.zero_le _ | exact mulC_l | exact mulC_r | (simp only [List.length_cons, List.length_nil, List.length_map, List.length_append, Z.len_app]; omega) | (simp only [List.length_map, List.length_append, List.length_cons, List.length_nil, Z.intsF_len] at *; omega) | with_unfolding_all exact rfl | (refine powC_of ?_; omega) | assumption | exact List.mem_cons_self)) | with_reducible refine IfK.dt (by decide) ?_ | with_reducible refine IfK.df (by decide) ?_)))
local macro_rules | `(tactic| array_mem_dec) => `(tactic| (repeat' (first | (first | with_reducible refine Stp.go ?_ | ((with_reducible refine Sd.mk ?_ ?_); focus (first | assumption | omega | exact Nat.zero_le _ | exact mulC_l | exact mulC_r | (simp only [List.length_cons, List.length_nil, List.length_map, List.length_append, Z.len_app]; omega) | (simp only [List.length_map, List.length_append, List.length_cons, List.length_nil, Z.intsF_len] at *; omega) | with_unfolding_all exact rfl | (refine powC_of ?_; omega) | assumption | exact List.mem_cons_self)) | with_reducible refine IfK.dt (by decide) ?_ | with_reducible refine IfK.df (by decide) ?_) | refine IfK.dec (fun _ => ?_) (fun _ => ?_) | (refine CndK.mk ?_; first | rfl | (simp [*]; done) | (simp; omega) | (simp at *; done) | (simp at *; simp [*]; done) | (simp at *; omega)))))
local macro_rules | `(tactic| sizeOf_list_dec) => `(tactic| repeat ((fail_if_success (first | with_reducible refine isLc ?_ | with_reducible refine isFor ?_)); (first | with_reducible refine Stp.go ?_ | ((with_reducible refine Sd.mk ?_ ?_); focus (first | assumption | omega | exact Nat.zero_le _ | exact mulC_l | exact mulC_r | (simp only [List.length_cons, List.length_nil, List.length_map, List.length_append, Z.len_app]; omega) | (simp only [List.length_map, List.length_append, List.length_cons, List.length_nil, Z.intsF_len] at *; omega) | with_unfolding_all exact rfl | (refine powC_of ?_; omega) | assumption | exact List.mem_cons_self)) | with_reducible refine IfK.dt (by decide) ?_ | with_reducible refine IfK.df (by decide) ?_)))
def dueP (b : Book) (w : Wld) : List (Fact × Nat) → PyData
  | [] => .none
  | p :: r => if p.1.kept b w then dueP b w r else .int (p.2 : Nat)
def due (b : Book) (w : Wld) : PyData := dueP b w b.facts.zipIdx
instance tg_wld {w : Wld} {f : List PyData → M Unit} {g : Gs} {AU : Unit → Gs → Prop} {B : Exn → Gs → Prop} : Stp (Wp (tupG f (.d w.d) g) AU B) (Wp (f [.int w.many, .tuple (w.moves.map natT), .tuple (w.yes.map natT)] g) AU B) := ⟨fun h => h⟩
def hI (b : Book) (w : Wld) (f : Fact) (fd : PyData) (l : List Nat) (g : Gs) : Prop := ∃ o9 o10 o11 o12 o13 : Option O, (∀ x ∈ l, x < w.many) ∧ (l.all fun x => f.hold b w x) = f.kept b w ∧ g = [some (.d b.d), some (.d w.d), some (.d fd), some (.d (.tuple (b.asks.map PyData.str))), some (.d (.tuple (b.deeds.map PyData.str))), some (.d (.tuple (b.facts.map Fact.d))), some (.d (.int w.many)), some (.d (.tuple (w.moves.map natT))), some (.d (.tuple (w.yes.map natT))), o9, o10, o11, o12, o13]
end G
namespace G
open PySem PySem.Spec L2 Z
local macro_rules | `(tactic| bv_omega) => `(tactic| repeat (first | with_reducible refine Stp.go ?_ | ((with_reducible refine Sd.mk ?_ ?_); focus (first | assumption | omega | exact Nat.zero_le _ | exact mulC_l | exact mulC_r | (simp only [List.length_cons, List.length_nil, List.length_map, List.length_append, Z.len_app]; omega) | (simp only [List.length_map, List.length_append, List.length_cons, List.length_nil, Z.intsF_len] at *; omega) | with_unfolding_all exact rfl | (refine powC_of ?_; omega) | assumption | exact List.mem_cons_self)) | with_reducible refine IfK.dt (by decide) ?_ | with_reducible refine IfK.df (by decide) ?_))
local macro_rules | `(tactic| array_get_dec) => `(tactic| repeat ((fail_if_success (with_reducible refine isJn ?_)); (first | with_reducible refine Stp.go ?_ | ((with_reducible refine Sd.mk ?_ ?_); focus (first | assumption | omega | exact Nat.zero_le _ | exact mulC_l | exact mulC_r | (simp only [List.length_cons, List.length_nil, List.length_map, List.length_append, Z.len_app]; omega) | (simp only [List.length_map, List.length_append, List.length_cons, List.length_nil, Z.intsF_len] at *; omega) | with_unfolding_all exact rfl | (refine powC_of ?_; omega) | assumption | exact List.mem_cons_self)) | with_reducible refine IfK.dt (by decide) ?_ | with_reducible refine IfK.df (by decide) ?_)))
local macro_rules | `(tactic| array_mem_dec) => `(tactic| (repeat' (first | (first | with_reducible refine Stp.go ?_ | ((with_reducible refine Sd.mk ?_ ?_); focus (first | assumption | omega | exact Nat.zero_le _ | exact mulC_l | exact mulC_r | (simp only [List.length_cons, List.length_nil, List.length_map, List.length_append, Z.len_app]; omega) | (simp only [List.length_map, List.length_append, List.length_cons, List.length_nil, Z.intsF_len] at *; omega) | with_unfolding_all exact rfl | (refine powC_of ?_; omega) | assumption | exact List.mem_cons_self)) | with_reducible refine IfK.dt (by decide) ?_ | with_reducible refine IfK.df (by decide) ?_) | refine IfK.dec (fun _ => ?_) (fun _ => ?_) | (refine CndK.mk ?_; first | rfl | (simp [*]; done) | (simp; omega) | (simp at *; done) | (simp at *; simp [*]; done) | (simp at *; omega)))))
local macro_rules | `(tactic| sizeOf_list_dec) => `(tactic| repeat ((fail_if_success (first | with_reducible refine isLc ?_ | with_reducible refine isFor ?_)); (first | with_reducible refine Stp.go ?_ | ((with_reducible refine Sd.mk ?_ ?_); focus (first | assumption | omega | exact Nat.zero_le _ | exact mulC_l | exact mulC_r | (simp only [List.length_cons, List.length_nil, List.length_map, List.length_append, Z.len_app]; omega) | (simp only [List.length_map, List.length_append, List.length_cons, List.length_nil, Z.intsF_len] at *; omega) | with_unfolding_all exact rfl | (refine powC_of ?_; omega) | assumption | exact List.mem_cons_self)) | with_reducible refine IfK.dt (by decide) ?_ | with_reducible refine IfK.df (by decide) ?_)))
theorem due_cases (b : Book) (w : Wld) : due b w = .none ∨ ∃ n : Nat, n < b.facts.length ∧ due b w = .int n := by
  have : ∀ l : List (Fact × Nat), (∀ p ∈ l, p.2 < b.facts.length) → dueP b w l = .none ∨ ∃ n : Nat, n < b.facts.length ∧ dueP b w l = .int n := by
    intro l
    induction l with
    | nil => exact fun _ => .inl rfl
    | cons p r ih =>
      intro h
      unfold dueP
      by_cases q : p.1.kept b w
      · rw [if_pos q]; exact ih fun x hx => h x (by simp [hx])
      · rw [if_neg q]; exact .inr ⟨p.2, h p (by simp), rfl⟩
  exact this _ fun p hp => by have := List.snd_lt_of_mem_zipIdx hp; omega
theorem Wld.Ok.of {b b2 : Book} {w : Wld} (h : w.Ok b) (e1 : b2.asks = b.asks) (e2 : b2.deeds = b.deeds) : w.Ok b2 := ⟨h.pos, h.le, by rw [e2]; exact h.mvL, h.mv, by rw [e1]; exact h.yesL, h.yes⟩
end G
namespace Z
open PySem PySem.Spec L2
variable {X : Cx} {W : WX}
def slGB (o : O) (lo hi : Option Int) : Option O := match o with
  | .gL ds => some (.lst ((cutD ds lo hi).map O.d))
  | o => slB o lo hi
def slGhM (ma ml mh : M O) : M O := M.bd ma fun o => M.bd ml fun oi => M.bd (asI oi) fun i => M.bd mh fun oj => M.bd (asI oj) fun j => optM (slGB o (some i) (some j))
theorem wp_slGh {ma ml mh : M O} {g : Gs} {A : O → Gs → Prop} {B : Exn → Gs → Prop} : Wp (slGhM ma ml mh g) A B = Wp (ma g) (fun o g1 => Wp (ml g1) (fun oi g2 => match oi with | .d (.int i) => Wp (mh g2) (fun oj g3 => match oj with | .d (.int j) => (optW (slGB o (some i) (some j)) fun r => A r g3) | _ => False) B | _ => False) B) B := by
  simp only [slGhM, wp_bd, wp_asI, wp_opt] <;> rfl
def SlK (x y : Int) (A : O → Gs → Prop) (o : O) (g : Gs) : Prop := optW (slGB o (some x) (some y)) fun r => A r g
instance s_slGh {ma : M O} {x y : Int} {g : Gs} {A : O → Gs → Prop} {B : Exn → Gs → Prop} : Stp (Wp (slGhM ma (dM (.int x)) (dM (.int y)) g) A B) (Wp (ma g) (SlK x y A) B) := ⟨fun h => by
  rw [wp_slGh]
  exact h⟩
instance s_slK {x y : Int} {g : Gs} {A : O → Gs → Prop} {ds : List PyData} : Stp (SlK x y A (.gL ds) g) (A (.lst ((cutD ds (some x) (some y)).map O.d)) g) := ⟨fun h => h⟩
end Z
namespace G
open PySem PySem.Spec L2 Z
end G
namespace G
open PySem PySem.Spec L2 Z
local macro_rules | `(tactic| bv_omega) => `(tactic| repeat (first | with_reducible refine Stp.go ?_ | ((with_reducible refine Sd.mk ?_ ?_); focus (first | assumption | omega | exact Nat.zero_le _ | exact mulC_l | exact mulC_r | (simp only [List.length_cons, List.length_nil, List.length_map, List.length_append, Z.len_app]; omega) | (simp only [List.length_map, List.length_append, List.length_cons, List.length_nil, Z.intsF_len] at *; omega) | with_unfolding_all exact rfl | (refine powC_of ?_; omega) | assumption | exact List.mem_cons_self)) | with_reducible refine IfK.dt (by decide) ?_ | with_reducible refine IfK.df (by decide) ?_))
local macro_rules | `(tactic| array_get_dec) => `(tactic| repeat ((fail_if_success (with_reducible refine isJn ?_)); (first | with_reducible refine Stp.go ?_ | ((with_reducible refine Sd.mk ?_ ?_); focus (first | assumption | omega | exact Nat.zero_le _ | exact mulC_l | exact mulC_r | (simp only [List.length_cons, List.length_nil, List.length_map, List.length_append, Z.len_app]; omega) | (simp only [List.length_map, List.length_append, List.length_cons, List.length_nil, Z.intsF_len] at *; omega) | with_unfolding_all exact rfl | (refine powC_of ?_; omega) | assumption | exact List.mem_cons_self)) | with_reducible refine IfK.dt (by decide) ?_ | with_reducible refine IfK.df (by decide) ?_)))
local macro_rules | `(tactic| array_mem_dec) => `(tactic| (repeat' (first | (first | with_reducible refine Stp.go ?_ | ((with_reducible refine Sd.mk ?_ ?_); focus (first | assumption | omega | exact Nat.zero_le _ | exact mulC_l | exact mulC_r | (simp only [List.length_cons, List.length_nil, List.length_map, List.length_append, Z.len_app]; omega) | (simp only [List.length_map, List.length_append, List.length_cons, List.length_nil, Z.intsF_len] at *; omega) | with_unfolding_all exact rfl | (refine powC_of ?_; omega) | assumption | exact List.mem_cons_self)) | with_reducible refine IfK.dt (by decide) ?_ | with_reducible refine IfK.df (by decide) ?_) | refine IfK.dec (fun _ => ?_) (fun _ => ?_) | (refine CndK.mk ?_; first | rfl | (simp [*]; done) | (simp; omega) | (simp at *; done) | (simp at *; simp [*]; done) | (simp at *; omega)))))
local macro_rules | `(tactic| sizeOf_list_dec) => `(tactic| repeat ((fail_if_success (first | with_reducible refine isLc ?_ | with_reducible refine isFor ?_)); (first | with_reducible refine Stp.go ?_ | ((with_reducible refine Sd.mk ?_ ?_); focus (first | assumption | omega | exact Nat.zero_le _ | exact mulC_l | exact mulC_r | (simp only [List.length_cons, List.length_nil, List.length_map, List.length_append, Z.len_app]; omega) | (simp only [List.length_map, List.length_append, List.length_cons, List.length_nil, Z.intsF_len] at *; omega) | with_unfolding_all exact rfl | (refine powC_of ?_; omega) | assumption | exact List.mem_cons_self)) | with_reducible refine IfK.dt (by decide) ?_ | with_reducible refine IfK.df (by decide) ?_)))
inductive Star (r : Nat → Nat → Prop) (x : Nat) : Nat → Prop
  | refl : Star r x x
  | step {y z : Nat} : Star r x y → r y z → Star r x z
def Err.cm (b : Book) (w : Wld) : Err → Nat → Nat → Prop
  | .done, x, y => y = x
  | .doo p, x, y => y = w.mv (b.deeds.idxOf p) x
  | .often u, x, y => Star (Err.cm b w u) x y
  | .whl t u, x, y => Star (fun x z => t.so b.asks (w.ans x) = true ∧ Err.cm b w u x z) x y ∧ t.so b.asks (w.ans y) = false
  | .thn u v, x, y => ∃ z, Err.cm b w u x z ∧ Err.cm b w v z y
  | .iff t u v, x, y => (t.so b.asks (w.ans x) = true ∧ Err.cm b w u x y) ∨ (t.so b.asks (w.ans x) = false ∧ Err.cm b w v x y)
  | .eth u v, x, y => Err.cm b w u x y ∨ Err.cm b w v x y
/-- a rising list of just the rooms y with P y -/
structure Ris (m : Nat) (P : Nat → Prop) (ys : List Nat) : Prop where
  up : ys.Pairwise (· < ·)
  lt : ∀ y ∈ ys, y < m
  mem : ∀ y, y ∈ ys ↔ P y
theorem Ris.nd {m : Nat} {P : Nat → Prop} {ys : List Nat} (h : Ris m P ys) : ys.Nodup := h.up.imp fun h => Nat.ne_of_lt h
theorem Star.mono {r q : Nat → Nat → Prop} {x y : Nat} {m : Nat} (h : Star r x y) (hx : x < m) (hl : ∀ x y, x < m → r x y → y < m) (hq : ∀ x y, x < m → r x y → q x y) : Star q x y ∧ y < m := by
  induction h with
  | refl => exact ⟨.refl, hx⟩
  | step _ h ih => exact ⟨.step ih.1 (hq _ _ ih.2 h), hl _ _ ih.2 h⟩
theorem cm_lt {b : Book} {w : Wld} (hw : w.Ok b) : ∀ {e : Err} {x y : Nat}, e.over b.asks b.deeds → x < w.many → e.cm b w x y → y < w.many
  | .done, x, y, _, hx, h => by simp only [Err.cm] at h; omega
  | .doo p, x, y, ho, hx, h => by
    simp only [Err.cm] at h
    rw [h]; exact hw.mv_lt (List.idxOf_lt_length_of_mem ho) hx
  | .often u, x, y, ho, hx, h => by
    simp only [Err.cm] at h
    exact (h.mono (q := fun _ _ => True) hx (fun _ _ h1 h2 => cm_lt hw (e := u) ho h1 h2) (fun _ _ _ _ => trivial)).2
  | .whl t u, x, y, ho, hx, h => by
    simp only [Err.cm] at h
    exact (h.1.mono (q := fun _ _ => True) hx (fun _ _ h1 h2 => cm_lt hw (e := u) ho.2 h1 h2.2) (fun _ _ _ _ => trivial)).2
  | .thn u v, x, y, ho, hx, h => by
    simp only [Err.cm] at h
    obtain ⟨z, h1, h2⟩ := h
    exact cm_lt hw (e := v) ho.2 (cm_lt hw (e := u) ho.1 hx h1) h2
  | .iff t u v, x, y, ho, hx, h => by
    simp only [Err.cm] at h
    rcases h with h | h
    · exact cm_lt hw (e := u) ho.2.1 hx h.2
    · exact cm_lt hw (e := v) ho.2.2 hx h.2
  | .eth u v, x, y, ho, hx, h => by
    simp only [Err.cm] at h
    rcases h with h | h
    · exact cm_lt hw (e := u) ho.1 hx h
    · exact cm_lt hw (e := v) ho.2 hx h
end G
namespace G
open PySem PySem.Spec L2 Z
local macro_rules | `(tactic| bv_omega) => `(tactic| repeat (first | with_reducible refine Stp.go ?_ | ((with_reducible refine Sd.mk ?_ ?_); focus (first | assumption | omega | exact Nat.zero_le _ | exact mulC_l | exact mulC_r | (simp only [List.length_cons, List.length_nil, List.length_map, List.length_append, Z.len_app]; omega) | (simp only [List.length_map, List.length_append, List.length_cons, List.length_nil, Z.intsF_len] at *; omega) | with_unfolding_all exact rfl | (refine powC_of ?_; omega) | assumption | exact List.mem_cons_self)) | with_reducible refine IfK.dt (by decide) ?_ | with_reducible refine IfK.df (by decide) ?_))
local macro_rules | `(tactic| array_get_dec) => `(tactic| repeat ((fail_if_success (with_reducible refine isJn ?_)); (first | with_reducible refine Stp.go ?_ | ((with_reducible refine Sd.mk ?_ ?_); focus (first | assumption | omega | exact Nat.zero_le _ | exact mulC_l | exact mulC_r | (simp only [List.length_cons, List.length_nil, List.length_map, List.length_append, Z.len_app]; omega) | (simp only [List.length_map, List.length_append, List.length_cons, List.length_nil, Z.intsF_len] at *; omega) | with_unfolding_all exact rfl | (refine powC_of ?_; omega) | assumption | exact List.mem_cons_self)) | with_reducible refine IfK.dt (by decide) ?_ | with_reducible refine IfK.df (by decide) ?_)))
local macro_rules | `(tactic| array_mem_dec) => `(tactic| (repeat' (first | (first | with_reducible refine Stp.go ?_ | ((with_reducible refine Sd.mk ?_ ?_); focus (first | assumption | omega | exact Nat.zero_le _ | exact mulC_l | exact mulC_r | (simp only [List.length_cons, List.length_nil, List.length_map, List.length_append, Z.len_app]; omega) | (simp only [List.length_map, List.length_append, List.length_cons, List.length_nil, Z.intsF_len] at *; omega) | with_unfolding_all exact rfl | (refine powC_of ?_; omega) | assumption | exact List.mem_cons_self)) | with_reducible refine IfK.dt (by decide) ?_ | with_reducible refine IfK.df (by decide) ?_) | refine IfK.dec (fun _ => ?_) (fun _ => ?_) | (refine CndK.mk ?_; first | rfl | (simp [*]; done) | (simp; omega) | (simp at *; done) | (simp at *; simp [*]; done) | (simp at *; omega)))))
local macro_rules | `(tactic| sizeOf_list_dec) => `(tactic| repeat ((fail_if_success (first | with_reducible refine isLc ?_ | with_reducible refine isFor ?_)); (first | with_reducible refine Stp.go ?_ | ((with_reducible refine Sd.mk ?_ ?_); focus (first | assumption | omega | exact Nat.zero_le _ | exact mulC_l | exact mulC_r | (simp only [List.length_cons, List.length_nil, List.length_map, List.length_append, Z.len_app]; omega) | (simp only [List.length_map, List.length_append, List.length_cons, List.length_nil, Z.intsF_len] at *; omega) | with_unfolding_all exact rfl | (refine powC_of ?_; omega) | assumption | exact List.mem_cons_self)) | with_reducible refine IfK.dt (by decide) ?_ | with_reducible refine IfK.df (by decide) ?_)))
/-- a rising list is told by what is in it -/
theorem Ris.uniq {m : Nat} {P Q : Nat → Prop} {xs ys : List Nat} (hx : Ris m P xs) (hy : Ris m Q ys) (h : ∀ z, P z ↔ Q z) : xs = ys := by
  have p : xs.Perm ys := (List.perm_ext_iff_of_nodup hx.nd hy.nd).mpr fun z => by rw [hx.mem, hy.mem, h]
  have h1 := hx.up
  have h2 := hy.up
  refine List.Perm.eq_of_pairwise (le := (· < ·)) ?_ h1 h2 p
  intro a b _ _ h1 h2
  omega
end G
namespace G
open PySem PySem.Spec L2 Z
structure Ren (m : Nat) (f g : Nat → Nat) : Prop where
  fl : ∀ i < m, f i < m
  gl : ∀ i < m, g i < m
  fg : ∀ i < m, f (g i) = i
  gf : ∀ i < m, g (f i) = i
theorem star_ren {m : Nat} {f g : Nat → Nat} (R : Ren m f g) {r r' : Nat → Nat → Prop} (hr : ∀ i < m, ∀ j < m, (r' i j ↔ r (f i) (f j))) (l : ∀ a c, a < m → r a c → c < m) (l' : ∀ a c, a < m → r' a c → c < m) : ∀ i < m, ∀ j < m, (Star r' i j ↔ Star r (f i) (f j)) := by
  intro i hi j hj
  constructor
  · intro h
    have : Star r (f i) (f j) ∧ j < m := by
      induction h with
      | refl => exact ⟨.refl, hi⟩
      | step h1 h ih =>
        rename_i y z
        have hy : y < m := (h1.mono (q := fun _ _ => True) hi l' (fun _ _ _ _ => trivial)).2
        have ih := ih hy
        have hz := l' _ _ hy h
        exact ⟨.step ih.1 ((hr y hy z hz).mp h), hz⟩
    exact this.1
  · intro h
    have : ∀ y, Star r (f i) y → Star r' i (g y) ∧ y < m := fun y h => by
      induction h with
      | refl => exact ⟨by rw [R.gf i hi]; exact .refl, R.fl i hi⟩
      | step _ h ih =>
        have hz := l _ _ ih.2 h
        exact ⟨.step ih.1 ((hr _ (R.gl _ ih.2) _ (R.gl _ hz)).mpr (by rw [R.fg _ ih.2, R.fg _ hz]; exact h)), hz⟩
    have := (this _ h).1
    rw [R.gf j hj] at this
    exact this
theorem cm_ren {b b' : Book} {w w' : Wld} (hw : w.Ok b) (hw' : w'.Ok b') (em : w'.many = w.many) {f g : Nat → Nat} (R : Ren w.many f g)
    (hp : ∀ p ∈ b.deeds, p ∈ b'.deeds) (hq : ∀ q ∈ b.asks, q ∈ b'.asks)
    (hm : ∀ p ∈ b.deeds, ∀ i < w.many, w'.mv (b'.deeds.idxOf p) i = g (w.mv (b.deeds.idxOf p) (f i)))
    (hs : ∀ t : Tst, t.over b.asks → ∀ i < w.many, t.so b'.asks (w'.ans i) = t.so b.asks (w.ans (f i)))
    (ho' : ∀ e : Err, e.over b.asks b.deeds → e.over b'.asks b'.deeds) : ∀ {e : Err}, e.over b.asks b.deeds → ∀ i < w.many, ∀ j < w.many, (e.cm b' w' i j ↔ e.cm b w (f i) (f j)) := by
  have lt' : ∀ e : Err, e.over b.asks b.deeds → ∀ a c, a < w.many → e.cm b' w' a c → c < w.many := fun e h a c h1 h2 => by
    rw [← em] at h1 ⊢
    exact cm_lt hw' (ho' e h) h1 h2
  have lt : ∀ e : Err, e.over b.asks b.deeds → ∀ a c, a < w.many → e.cm b w a c → c < w.many := fun e h a c h1 h2 => cm_lt hw h h1 h2
  have inj : ∀ i < w.many, ∀ j < w.many, f i = f j → i = j := fun i hi j hj h => by rw [← R.gf i hi, h, R.gf j hj]
  intro e
  induction e with
  | done =>
    intro ho i hi j hj
    simp only [Err.cm]
    exact ⟨fun h => by rw [h], fun h => inj j hj i hi h⟩
  | doo p =>
    intro ho i hi j hj
    simp only [Err.cm]
    have hl := hw.mv_lt (List.idxOf_lt_length_of_mem ho) (R.fl i hi)
    rw [hm p ho i hi]
    exact ⟨fun h => by rw [h, R.fg _ hl], fun h => by rw [← h, R.gf j hj]⟩
  | often u ih =>
    intro ho i hi j hj
    simp only [Err.cm]
    exact star_ren R (fun a ha c hc => ih ho a ha c hc) (lt u ho) (lt' u ho) i hi j hj
  | whl t u ih =>
    intro ho i hi j hj
    simp only [Err.cm]
    rw [hs t ho.1 j hj]
    rw [star_ren R (r := fun x z => t.so b.asks (w.ans x) = true ∧ Err.cm b w u x z) (fun a ha c hc => by rw [hs t ho.1 a ha, ih ho.2 a ha c hc]) (fun a c h1 h2 => lt u ho.2 a c h1 h2.2) (fun a c h1 h2 => lt' u ho.2 a c h1 h2.2) i hi j hj]
  | thn u v ihu ihv =>
    intro ho i hi j hj
    simp only [Err.cm]
    constructor
    · rintro ⟨z, h1, h2⟩
      have hz := lt' u ho.1 i z hi h1
      exact ⟨f z, (ihu ho.1 i hi z hz).mp h1, (ihv ho.2 z hz j hj).mp h2⟩
    · rintro ⟨z, h1, h2⟩
      have hz := lt u ho.1 _ z (R.fl i hi) h1
      refine ⟨g z, (ihu ho.1 i hi _ (R.gl z hz)).mpr (by rw [R.fg z hz]; exact h1), (ihv ho.2 _ (R.gl z hz) j hj).mpr (by rw [R.fg z hz]; exact h2)⟩
  | iff t u v ihu ihv =>
    intro ho i hi j hj
    simp only [Err.cm]
    rw [hs t ho.1 i hi, ihu ho.2.1 i hi j hj, ihv ho.2.2 i hi j hj]
  | eth u v ihu ihv =>
    intro ho i hi j hj
    simp only [Err.cm]
    rw [ihu ho.1 i hi j hj, ihv ho.2 i hi j hj]
theorem so_ren {qs qs' : List Str} {n n' : Int} (h : ∀ q ∈ qs, bitI n' (qs'.idxOf q) = bitI n (qs.idxOf q)) : ∀ {t : Tst}, t.over qs → t.so qs' n' = t.so qs n := by
  intro t
  induction t with
  | yes => intro _; rfl
  | no => intro _; rfl
  | ask q => intro ho; exact h q ho
  | not u ih => intro ho; simp only [Tst.so]; rw [ih ho]
  | and u v ihu ihv => intro ho; simp only [Tst.so]; rw [ihu ho.1, ihv ho.2]
  | or u v ihu ihv => intro ho; simp only [Tst.so]; rw [ihu ho.1, ihv ho.2]
theorem so_say {b b' : Book} {w w' : Wld} (hw : w.Ok b) (hw' : w'.Ok b') (hq : ∀ q ∈ b.asks, q ∈ b'.asks) {i x : Nat} (h : ∀ q ∈ b.asks, w'.say (b'.asks.idxOf q) i = w.say (b.asks.idxOf q) x) : ∀ {t : Tst}, t.over b.asks → t.so b'.asks (w'.ans i) = t.so b.asks (w.ans x) := by
  refine so_ren fun q hqm => ?_
  have h1 := List.idxOf_lt_length_of_mem hqm
  have h2 := List.idxOf_lt_length_of_mem (hq q hqm)
  rw [ans_bit, ans_bit, hw.yesL, hw'.yesL, decide_eq_true h1, decide_eq_true h2, Bool.true_and, Bool.true_and]
  exact h q hqm
end G
namespace G
open PySem PySem.Spec L2 Z
theorem Tst.over_mono {qs qs' : List Str} (h : ∀ q ∈ qs, q ∈ qs') : ∀ {t : Tst}, t.over qs → t.over qs' := by
  intro t
  induction t with
  | yes => intro _; trivial
  | no => intro _; trivial
  | ask q => intro ho; exact h q ho
  | not u ih => intro ho; exact ih ho
  | and u v ihu ihv => intro ho; exact ⟨ihu ho.1, ihv ho.2⟩
  | or u v ihu ihv => intro ho; exact ⟨ihu ho.1, ihv ho.2⟩
theorem Err.over_mono {qs qs' ps ps' : List Str} (h : ∀ q ∈ qs, q ∈ qs') (h' : ∀ p ∈ ps, p ∈ ps') : ∀ {e : Err}, e.over qs ps → e.over qs' ps' := by
  intro e
  induction e with
  | done => intro _; trivial
  | doo p => intro ho; exact h' p ho
  | often u ih => intro ho; exact ih ho
  | whl t u ih => intro ho; exact ⟨Tst.over_mono h ho.1, ih ho.2⟩
  | thn u v ihu ihv => intro ho; exact ⟨ihu ho.1, ihv ho.2⟩
  | iff t u v ihu ihv => intro ho; exact ⟨Tst.over_mono h ho.1, ihu ho.2.1, ihv ho.2.2⟩
  | eth u v ihu ihv => intro ho; exact ⟨ihu ho.1, ihv ho.2⟩
theorem Fact.over_mono {qs qs' ps ps' : List Str} (h : ∀ q ∈ qs, q ∈ qs') (h' : ∀ p ∈ ps, p ∈ ps') : ∀ {f : Fact}, f.over qs ps → f.over qs' ps'
  | .keeps _ _, ho => ⟨h' _ ho.1, h _ ho.2⟩
  | .makes _ _ _, ho => ⟨h' _ ho.1, h _ ho.2⟩
  | .rests _ _, ho => ⟨h' _ ho.1, h' _ ho.2⟩
  | .idles _ _ _, ho => ⟨h _ ho.1, h' _ ho.2⟩
  | .still _, ho => h' _ ho
  | .never _, ho => ⟨Tst.over_mono h ho.1, ho.2⟩
section
variable {α : Type} {l : List α} {d : α} {σ : List Nat}
theorem trn_perm (h : σ.Perm (List.range l.length)) : (σ.map fun i => l.getD i d).Perm l := by
  refine (h.map _).trans (List.Perm.of_eq ?_)
  refine List.ext_getElem (by simp) fun i h1 h2 => ?_
  simp [List.getD_eq_getElem?_getD, h2]
theorem trn_idx [BEq α] [LawfulBEq α] (hn : l.Nodup) (h : σ.Perm (List.range l.length)) {q : α} (hq : q ∈ l) : (σ.map fun i => l.getD i d).idxOf q < σ.length ∧ σ.getD ((σ.map fun i => l.getD i d).idxOf q) 0 = l.idxOf q := by
  have hm : q ∈ σ.map fun i => l.getD i d := (trn_perm h).mem_iff.mpr hq
  have hk := List.idxOf_lt_length_of_mem hm
  have e := List.getElem_idxOf hk
  generalize (σ.map fun i => l.getD i d).idxOf q = k at hk e ⊢
  rw [List.length_map] at hk
  refine ⟨hk, ?_⟩
  rw [List.getElem_map] at e
  have hs : σ[k] < l.length := by
    have := h.mem_iff.mp (List.getElem_mem hk)
    simpa using this
  rw [List.getD_eq_getElem?_getD, List.getElem?_eq_getElem hs, Option.getD_some] at e
  rw [List.getD_eq_getElem?_getD, List.getElem?_eq_getElem hk, Option.getD_some, ← e, hn.idxOf_getElem]
end
structure Trn (b : Book) (w : Wld) (b' : Book) (w' : Wld) (σ : List Nat) : Prop where
  pm : σ.Perm (List.range w.many)
  fit : b'.Fit
  ok : w'.Ok b'
  many : w'.many = w.many
  asks : ∀ q ∈ b.asks, q ∈ b'.asks
  deeds : ∀ p ∈ b.deeds, p ∈ b'.deeds
  mv : ∀ p ∈ b.deeds, ∀ i < w.many, w'.mv (b'.deeds.idxOf p) i = σ.idxOf (w.mv (b.deeds.idxOf p) (σ.getD i 0))
  say : ∀ q ∈ b.asks, ∀ i < w.many, w'.say (b'.asks.idxOf q) i = w.say (b.asks.idxOf q) (σ.getD i 0)
theorem Trn.lt {b b' : Book} {w w' : Wld} {σ : List Nat} (T : Trn b w b' w' σ) {x : Nat} (hx : x < w.many) : σ.idxOf x < w.many := by
  have hm : x ∈ σ := T.pm.mem_iff.mpr (by simpa using hx)
  have := List.idxOf_lt_length_of_mem hm
  have e := T.pm.length_eq
  rw [List.length_range] at e
  omega
theorem perm_ren {m : Nat} {σ : List Nat} (h : σ.Perm (List.range m)) : Ren m (fun i => σ.getD i 0) (fun x => σ.idxOf x) := by
  have e := h.length_eq
  rw [List.length_range] at e
  have nd : σ.Nodup := h.nodup_iff.mpr List.nodup_range
  refine ⟨fun i hi => ?_, fun x hx => ?_, fun x hx => ?_, fun i hi => ?_⟩
  · have := h.mem_iff.mp (List.getElem_mem (l := σ) (n := i) (by omega))
    rw [List.getD_eq_getElem?_getD, List.getElem?_eq_getElem (by omega), Option.getD_some]
    simpa using this
  · have := List.idxOf_lt_length_of_mem (h.mem_iff.mpr (by simpa using hx) : x ∈ σ)
    omega
  · have := List.idxOf_lt_length_of_mem (h.mem_iff.mpr (by simpa using hx) : x ∈ σ)
    rw [List.getD_eq_getElem?_getD, List.getElem?_eq_getElem this, Option.getD_some, List.getElem_idxOf this]
  · rw [List.getD_eq_getElem?_getD, List.getElem?_eq_getElem (by omega), Option.getD_some, nd.idxOf_getElem]
theorem Trn.of {b : Book} (hb : b.Fit) {w : Wld} (hw : w.Ok b) {σq σp σx : List Nat} (hq : σq.Perm (List.range b.asks.length)) (hp : σp.Perm (List.range b.deeds.length)) (hx : σx.Perm (List.range w.many)) {Y : List (List Nat)} (hl : Y.length = σq.length)
    (hY : ∀ k < σq.length, Ris w.many (fun i => i < w.many ∧ σx.getD i 0 ∈ w.yes.getD (σq.getD k 0) []) (Y.getD k [])) :
    Trn b w ⟨σq.map fun i => b.asks.getD i default, σp.map fun i => b.deeds.getD i default, b.facts⟩ ⟨w.many, σp.map fun p => σx.map fun x => σx.idxOf (w.mv p x), Y⟩ σx := by
  have pq := trn_perm (d := default) hq
  have pp := trn_perm (d := default) hp
  have eq_ := hq.length_eq
  have ep := hp.length_eq
  have ex := hx.length_eq
  rw [List.length_range] at eq_ ep ex
  have R := perm_ren hx
  have ga {α : Type} (l : List α) (d : α) (i : Nat) (h : i < l.length) : l.getD i d = l[i] := by rw [List.getD_eq_getElem?_getD, List.getElem?_eq_getElem h, Option.getD_some]
  have hyq : ∀ r ∈ Y, ∃ k, k < σq.length ∧ r = Y.getD k [] := fun r hr => by
    obtain ⟨k, hk, rfl⟩ := List.getElem_of_mem hr
    exact ⟨k, by omega, (ga _ _ _ hk).symm⟩
  refine ⟨hx, ⟨pq.nodup_iff.mpr hb.asksN, pp.nodup_iff.mpr hb.deedsN, by rw [pq.length_eq]; exact hb.asksL, by rw [pp.length_eq]; exact hb.deedsP, by rw [pp.length_eq]; exact hb.deedsL, hb.factsL, fun f hf => Fact.over_mono (fun q h => pq.mem_iff.mpr h) (fun p h => pp.mem_iff.mpr h) (hb.factsO f hf)⟩,
    ⟨hw.pos, hw.le, by simp, ?_, by simp [hl], ?_⟩, rfl, fun q h => pq.mem_iff.mpr h, fun p h => pp.mem_iff.mpr h, fun p h i hi => ?_, fun q h i hi => ?_⟩
  · intro r hr
    obtain ⟨p, hpm, rfl⟩ := List.mem_map.mp hr
    have hp' : p < b.deeds.length := by simpa using hp.mem_iff.mp hpm
    refine ⟨by rw [List.length_map]; exact ex, fun y hy => ?_⟩
    obtain ⟨x, hxm, rfl⟩ := List.mem_map.mp hy
    have hx' : x < w.many := by simpa using hx.mem_iff.mp hxm
    exact R.gl _ (hw.mv_lt hp' hx')
  · intro r hr
    obtain ⟨k, hk, rfl⟩ := hyq r hr
    exact ⟨(hY k hk).up, (hY k hk).lt⟩
  · obtain ⟨h1, h2⟩ := trn_idx (d := default) hb.deedsN hp h
    show (((σp.map fun p => σx.map fun x => σx.idxOf (w.mv p x)).getD _ []).getD i 0) = _
    have gm {α β : Type} (f : α → β) (l : List α) (d : α) (d' : β) (k : Nat) (h : k < l.length) : (l.map f).getD k d' = f (l.getD k d) := by
      rw [ga _ _ _ (by rw [List.length_map]; exact h), List.getElem_map, ga _ _ _ h]
    rw [gm _ _ 0 _ _ h1, h2, gm _ _ 0 _ _ (by omega)]
  · obtain ⟨h1, h2⟩ := trn_idx (d := default) hb.asksN hq h
    have h3 := hY _ h1
    rw [h2] at h3
    show decide (i ∈ Y.getD _ []) = decide (_ ∈ _)
    refine decide_eq_decide.mpr ?_
    rw [h3.mem]
    exact ⟨fun z => z.2, fun z => ⟨hi, z⟩⟩
theorem Trn.cm {b b' : Book} {w w' : Wld} {σ : List Nat} (T : Trn b w b' w' σ) (hw : w.Ok b) {e : Err} (he : e.over b.asks b.deeds) {i j : Nat} (hi : i < w.many) (hj : j < w.many) : e.cm b' w' i j ↔ e.cm b w (σ.getD i 0) (σ.getD j 0) :=
  cm_ren hw T.ok T.many (perm_ren T.pm) T.deeds T.asks T.mv (fun t ht i hi => so_say hw T.ok T.asks (fun q hq => T.say q hq i hi) ht) (fun e h => Err.over_mono T.asks T.deeds h) he i hi j hj
/-- the rooms told, by the other numbers, are those told in the other order -/
theorem Trn.same {b b' : Book} {w w' : Wld} {σ : List Nat} (T : Trn b w b' w' σ) (hw : w.Ok b) {e : Err} (he : e.over b.asks b.deeds) {x : Nat} (hx : x < w.many) {ys ys' ts : List Nat} (hy : Ris w.many (fun y => e.cm b w x y) ys) (hy' : Ris w'.many (fun y => e.cm b' w' (σ.idxOf x) y) ys')
    (ht : Ris w.many (fun i => i ∈ ys.map fun y => σ.idxOf y) ts) : ys' = ts := by
  have R := perm_ren T.pm
  rw [T.many] at hy'
  refine hy'.uniq ht fun z => ?_
  constructor
  · intro h
    have hz : z < w.many := by
      have := cm_lt T.ok (Err.over_mono T.asks T.deeds he) (by rw [T.many]; exact T.lt hx) h
      rw [T.many] at this; exact this
    have := (T.cm hw he (T.lt hx) hz).mp h
    rw [R.fg x hx] at this
    exact List.mem_map.mpr ⟨_, (hy.mem _).mpr this, R.gf z hz⟩
  · intro h
    obtain ⟨y, h1, rfl⟩ := List.mem_map.mp h
    have hyl := hy.lt y h1
    refine (T.cm hw he (T.lt hx) (R.gl y hyl)).mpr ?_
    rw [R.fg x hx, R.fg y hyl]
    exact (hy.mem y).mp h1
end G
namespace Z
open PySem PySem.Spec L2
section
variable {X : Cx} {W : WX} {pu pv : Bool} {H H' : Hp} {Ex : List (Addr × HO)} {σ σ' : L2.St} {g : Gs} {T T' ws ws' rs : Roots} {e a b o : Expr} {es : List Expr} {m mo : M O} {pos p apos : Pos} {k j np : Nat} {x : Str} {dfs : List PyData} {f : Fn} {ms : M (List Arg)}
/-- a class called: its __init__ is done on a new instance -/
def mkM (c : Str) (f : Fn) (dfs : List PyData) (ms : M (List Arg)) : M O := M.bd ms fun as g => match takeA as g with
  | some (os, g') => (f (.ins c [] :: (os ++ dfs.map O.d))).res (fun r ps => match r, ps with
    | .d .none, s :: ps => if ps.length = (os ++ dfs.map O.d).length then .ok s (giveA as (ps.take os.length) g') else .bad
    | _, _ => .bad) g'
  | none => .bad
/-- a receiver that is had: it is dropped behind the call -/
def methT (c m : Str) (f : Fn) (dfs : List PyData) (mo : M O) (ms : M (List Arg)) : M O := M.bd mo fun o => match o with
  | .ins c' fos => if c' = c ∧ noKey m fos = true then callM f dfs (M.bd ms fun as => M.ret (.val (.ins c' fos) :: as)) else M.no
  | .fr (.ins c' fos) => if c' = c ∧ noKey m fos = true then callM f dfs (M.bd ms fun as => M.ret (.val (.fr (.ins c' fos)) :: as)) else M.no
  | _ => M.no
end
end Z
namespace Z
open PySem PySem.Spec L2
section
variable {X : Cx} {W : WX} {pu pv pw : Bool} {H H' : Hp} {Ex : List (Addr × HO)} {σ σ' : L2.St} {g : Gs} {T T' ws ws' rs : Roots} {e a b o lo hi : Expr} {es : List Expr} {m ma : M O} {ms : M (List O)} {pos p p2 apos : Pos} {k j np : Nat} {x : Str}
def lsInts : O → Option (List Int)
  | .d (.list ds) => intsOf ds
  | _ => none
def ixInt (is : List Int) : O → Option O
  | .d (.int i) => match is.findIdx? (fun y => decide (y = i)) with
    | some j => some (.d (.int j))
    | none => none
  | _ => none
def idxLM (mo me : M O) : M O := M.bd mo fun o => M.bd (optG (lsInts o)) fun is => M.bd me fun x => optM (ixInt is x)
end
section
variable {A : O → Gs → Prop} {B : Exn → Gs → Prop} {g : Gs} {m n : M O}
def IlK (n : M O) (A : O → Gs → Prop) (B : Exn → Gs → Prop) (o : O) (g : Gs) : Prop := ∃ is, lsInts o = some is ∧ Wp (n g) (fun x g2 => optW (ixInt is x) fun r => A r g2) B
instance s_idxL : Stp (Wp (idxLM m n g) A B) (Wp (m g) (IlK n A B) B) := ⟨fun h => by
  unfold idxLM
  refine (wp_bd (m := m)).mpr (h.mono (fun o g1 q => ?_) fun _ _ z => z)
  obtain ⟨is, e, q⟩ := q
  refine Res.wp_bd.mpr ?_
  unfold optG
  rw [e]
  refine (wp_bd (m := n)).mpr (q.mono (fun x g2 z => ?_) fun _ _ z => z)
  rw [wp_opt]; exact z⟩
instance s_ilK {ds : List PyData} {is : List Int} [q : ItsC ds is] : Stp (IlK n A B (.d (.list ds)) g) (Wp (n g) (fun x g2 => optW (ixInt is x) fun r => A r g2) B) := ⟨fun h => ⟨is, by rw [q.eq]; exact intsOf_map is, h⟩⟩
end
instance itsN {l : List Nat} : ItsC (l.map fun (x : Nat) => PyData.int (x : Int)) (l.map fun (x : Nat) => (x : Int)) := ⟨by rw [List.map_map]; rfl⟩
end Z
namespace Z
open PySem PySem.Spec L2
section
variable {X : Cx} {W : WX} {pu pv pw : Bool} {H H' : Hp} {Ex : List (Addr × HO)} {σ σ' : L2.St} {g : Gs} {T T' ws ws' rs : Roots} {e a b o lo hi : Expr} {es : List Expr} {m : M O} {mp : M Pth} {ms : M (List O)} {pos p p2 apos : Pos} {k j np : Nat} {x : Str}
def kfD : Key → PyData
  | .inl i => .int i
  | .inr s => .str s
def lsdF : O → Option O
  | .dK kos => some (.lst ((kos.map fun p => kfD p.1).map O.d))
  | .fr (.dK kos) => some (.lst ((kos.map fun p => kfD p.1).map O.d))
  | .dT kos => if (kos.all fun p => p.1.all kI) = true then some (.lst ((kos.map fun p => tupD p.1).map O.d)) else none
  | .fr (.dT kos) => if (kos.all fun p => p.1.all kI) = true then some (.lst ((kos.map fun p => tupD p.1).map O.d)) else none
  | .gD kos => if (kos.all fun p => p.1.all kI) = true then some (.lst ((kos.map fun p => tupD p.1).map O.d)) else none
  | _ => none
def lsdM (m : M O) : M O := M.bd m fun o g => match lsdF o with
  | some q => .ok q g
  | none => .bad
end
end Z
namespace L2.DX
open PySem PySem.Spec PyProof.Rows
end L2.DX
namespace Z
open PySem PySem.Spec L2
end Z
namespace Z
open PySem PySem.Spec L2
section
variable {K : PySem.W.Frag} {mg : Str → Option Value} {H H' : Hp} {Ex : List (Addr × HO)} {rs ws : Roots}
theorem nodup_le {α : Type} [DecidableEq α] : ∀ {l m : List α}, l.Nodup → (∀ x ∈ l, x ∈ m) → l.length ≤ m.length
  | [], _, _, _ => Nat.zero_le _
  | a :: l, m, h, s => by
    obtain ⟨h1, h2⟩ := List.nodup_cons.mp h
    have hm := s a List.mem_cons_self
    have := nodup_le (l := l) (m := m.erase a) h2 fun x hx => (List.mem_erase_of_ne (fun e => by subst e; exact h1 hx)).mpr (s x (List.mem_cons_of_mem _ hx))
    rw [List.length_erase_of_mem hm] at this
    have := List.length_pos_of_mem hm
    simp only [List.length_cons]
    omega
theorem MemAt.len {Hf : Hp} {kvs : List (List Key × V)} {g : List Key → Option PyData} (M : MemAt K Hf kvs g) : kvs.length < 16777216 := by
  obtain ⟨dom, h1, h2⟩ := M.fin
  have := nodup_le M.nd (m := dom) fun x hx => by
    obtain ⟨p, hp, rfl⟩ := List.mem_map.mp hx
    obtain ⟨y, e, _⟩ := M.val p hp
    exact h2 _ (by rw [e]; rfl)
  rw [List.length_map] at this
  omega
end
end Z
namespace Z
open PySem PySem.Spec L2
def insOk (c m : Str) : O → Bool
  | .ins c' fos => decide (c' = c) && noKey m fos
  | .fr (.ins c' fos) => decide (c' = c) && noKey m fos
  | _ => false
def methS (c m : Str) (i : Nat) (f : Fn) (dfs : List PyData) (ms : M (List Arg)) : M O := fun g => match g[i]? with
  | some (some q) => if insOk c m q = true then callM f dfs (slA i ms) g else .bad
  | _ => .bad
theorem insOk_is {c m : Str} {q : O} (h : insOk c m q = true) : ∃ fos, (q = .ins c fos ∨ q = .fr (.ins c fos)) ∧ noKey m fos = true := by
  unfold insOk at h
  split at h
  · simp only [Bool.and_eq_true, decide_eq_true_eq] at h
    obtain ⟨rfl, h⟩ := h
    exact ⟨_, .inl rfl, h⟩
  · simp only [Bool.and_eq_true, decide_eq_true_eq] at h
    obtain ⟨rfl, h⟩ := h
    exact ⟨_, .inr rfl, h⟩
  · cases h
section
variable {X : Cx} {W : WX} {pu pv pw : Bool} {H H' : Hp} {Ex : List (Addr × HO)} {σ σ' : L2.St} {g : Gs} {T T' ws ws' rs : Roots} {e a b o lo hi : Expr} {es : List Expr} {m mi mv : M O} {mp : M Pth} {ms : M (List Arg)} {pos p p2 apos ap : Pos} {k j np : Nat} {x : Str} {dfs : List PyData} {f : Fn}
/-- a thing that owns only data becomes data, else it stands still -/
def stV (o : O) : O := match o.fz with
  | some x => .d x
  | none => mkFr o
def stF (o : O) : O := match o with
  | .dK kos => .fr (.dK (kos.map fun p => (p.1, stV p.2)))
  | .dT kos => .fr (.dT (kos.map fun p => (p.1, stV p.2)))
  | o => stV o
def ghPF (i : Nat) (π : Pth) (m : M Fl) : M Fl := fun g => match getPl g i π with
  | some x => m (setPl g i π (stF x))
  | none => .bad
end
end Z
namespace Z
open PySem PySem.Spec L2
end Z
namespace Z
open PySem PySem.Spec L2
/-- a field as it stands -/
class AtC (c f : Str) (o : O) (x : outParam O) : Prop where
  eq : fldO c f o = some x
/-- a field, looked at -/
class AtU (c f : Str) (o : O) (x : outParam O) : Prop where
  eq : ∃ y, fldO c f o = some y ∧ unfr y = x
class InsC (c m : Str) (q : O) : Prop where
  eq : insOk c m q = true
/-- no data -/
class NdC (q : O) : Prop where
  eq : ∀ x, q ≠ .d x
def AtK (c f : Str) (A : O → Gs → Prop) (o : O) (g : Gs) : Prop := ∃ x, fldO c f o = some x ∧ A x g
def AuK (c f : Str) (A : O → Gs → Prop) (o : O) (g : Gs) : Prop := ∃ x, fldO c f o = some x ∧ A (unfr x) g
section
variable {A : O → Gs → Prop} {AU : Unit → Gs → Prop} {AF : Fl → Gs → Prop} {AR : List Arg → Gs → Prop} {AD : List PyData → Gs → Prop} {B : Exn → Gs → Prop} {g g' g1 : Gs} {m mo n : M O} {ms : M (List Arg)} {i jk k : Nat} {o q x : O} {os : List O} {c f mn : Str}
theorem wp_at (h : Wp (m g) (AtK c f A) B) : Wp (atM c f m g) A B := by
  unfold atM
  refine (wp_bd (m := m)).mpr (h.mono (fun o g1 q => ?_) fun _ _ z => z)
  obtain ⟨x, e, q⟩ := q
  simp only [e]
  exact q
instance s_at : Stp (Wp (atM c f m g) A B) (Wp (m g) (AtK c f A) B) := ⟨wp_at⟩
instance s_atK [h : AtC c f o x] : Stp (AtK c f A o g) (A x g) := ⟨fun k => ⟨x, h.eq, k⟩⟩
instance (priority := 2000) s_unAt : Stp (Wp (unM (atM c f m) g) A B) (Wp (m g) (AuK c f A) B) := ⟨fun h => by
  unfold unM
  refine (wp_bd (m := atM c f m)).mpr (wp_at (h.mono (fun o g1 q => ?_) fun _ _ z => z))
  exact q⟩
instance s_auK [h : AtU c f o x] : Stp (AuK c f A o g) (A x g) := ⟨fun k => by
  obtain ⟨y, e1, e2⟩ := h.eq
  exact ⟨y, e1, by rw [e2]; exact k⟩⟩
instance s_slA : Stp (Wp (slA i ms g) AR B) (Wp (ms g) (fun as g2 => AR (.sl i :: as) g2) B) := ⟨fun h => by
  unfold slA
  exact (wp_bd (m := ms)).mpr h⟩
instance s_methS {fn : Fn} {dfs : List PyData} [h : Get g i (some q)] [c' : InsC c mn q] : Stp (Wp (methS c mn i fn dfs ms g) A B) (Wp (callM fn dfs (slA i ms) g) A B) := ⟨fun k => by
  unfold methS
  rw [h.get]
  simp only [c'.eq, if_true]
  exact k⟩
instance takN {as : List Arg} [n : NdC q] [p : Put g i none g1] [t : TakC as g1 os g'] : TakO as i q g os g' := ⟨fun h => by
  cases q with
  | d x => exact absurd rfl (n.eq x)
  | _ => rw [takeA, h]; simp only [p.put, t.eq]⟩
def Mw (c : Str) (fn : Fn) (dfs : List PyData) (A : O → Gs → Prop) (B : Exn → Gs → Prop) (as : List Arg) (g : Gs) : Prop := optW (takeA as g) fun p => FW (fn (.ins c [] :: (p.1 ++ dfs.map O.d))) (fun r ps => ∃ s ps', r = .d .none ∧ ps = s :: ps' ∧ ps'.length = (p.1 ++ dfs.map O.d).length ∧ A s (giveA as (ps'.take p.1.length) p.2)) (fun x => B x p.2)
def MkK (A : O → Gs → Prop) (as : List Arg) (k : Nat) (g : Gs) (r : O) (ps : List O) : Prop := ∃ s ps', r = .d .none ∧ ps = s :: ps' ∧ ps'.length = k ∧ A s (giveA as ps' g)
instance s_mk {fn : Fn} {dfs : List PyData} : Stp (Wp (mkM c fn dfs ms g) A B) (Wp (ms g) (fun as g1 => Mw c fn dfs A B as g1) B) := ⟨fun h => by
  unfold mkM
  refine (wp_bd (m := ms)).mpr (h.mono (fun as g1 q => ?_) fun _ _ z => z)
  unfold Mw at q
  cases e : takeA as g1 with
  | none => rw [e] at q; exact q.elim
  | some p =>
    rw [e] at q
    simp only [optW_some] at q
    refine FRes.wp_res.mpr (q.mono (fun r ps z => ?_) fun _ z => z)
    obtain ⟨s, ps', rfl, rfl, hl, z⟩ := z
    simp only [hl, if_true]
    exact z⟩
instance s_mw {fn : Fn} {dfs : List PyData} {as : List Arg} {os' : List O} [t : TakC as g os g'] [d : DfsC os dfs os'] [l : LenC os' k] : Stp (Mw c fn dfs A B as g) (FW (fn (.ins c [] :: os')) (MkK A as k g') (fun x => B x g')) := ⟨fun h => by
  unfold Mw
  rw [t.eq, optW_some, d.eq]
  refine h.mono (fun r ps q => ?_) fun _ z => z
  obtain ⟨s, ps', e1, e2, e3, q⟩ := q
  refine ⟨s, ps', e1, e2, by rw [e3, l.eq], ?_⟩
  rw [takeA_len t.eq, giveA_take]
  exact q⟩
instance s_mkK {as : List Arg} {ps : List O} {s : O} [l : LenC ps k] [q : GivC as ps g g'] : Stp (MkK A as k g (.d .none) (s :: ps)) (A s g') := ⟨fun h => ⟨s, ps, rfl, rfl, l.eq, by rw [q.eq]; exact h⟩⟩
def MtW (c mn : Str) (fn : Fn) (dfs : List PyData) (ms : M (List Arg)) (A : O → Gs → Prop) (B : Exn → Gs → Prop) (q : O) (g : Gs) : Prop := insOk c mn q = true ∧ Wp (ms g) (fun as g1 => Cw fn dfs A B (.val q :: as) g1) B
instance s_methT {fn : Fn} {dfs : List PyData} : Stp (Wp (methT c mn fn dfs mo ms g) A B) (Wp (mo g) (MtW c mn fn dfs ms A B) B) := ⟨fun h => by
  unfold methT
  refine (wp_bd (m := mo)).mpr (h.mono (fun q g1 z => ?_) fun _ _ z => z)
  obtain ⟨h1, h2⟩ := z
  have key : Wp (callM fn dfs (M.bd ms fun as => M.ret (.val q :: as)) g1) A B := z_call ((wp_bd (m := ms)).mpr h2)
  obtain ⟨fos, hq, hk⟩ := insOk_is h1
  rcases hq with rfl | rfl
  · simp only [hk, and_self, if_true]; exact key
  · simp only [hk, and_self, if_true]; exact key⟩
instance s_mtW {fn : Fn} {dfs : List PyData} [c' : InsC c mn q] : Stp (MtW c mn fn dfs ms A B q g) (Wp (ms g) (fun as g1 => Cw fn dfs A B (.val q :: as) g1) B) := ⟨fun h => ⟨c'.eq, h⟩⟩
def LsdK (A : O → Gs → Prop) (o : O) (g : Gs) : Prop := ∃ q, lsdF o = some q ∧ A q g
instance s_lsd : Stp (Wp (lsdM m g) A B) (Wp (m g) (LsdK A) B) := ⟨fun h => by
  unfold lsdM
  refine (wp_bd (m := m)).mpr (h.mono (fun o g1 q => ?_) fun _ _ z => z)
  obtain ⟨q, e, z⟩ := q
  simp only [e]
  exact z⟩
instance s_lsdK {kos : List (Key × O)} : Stp (LsdK A (.dK kos) g) (A (.lst ((kos.map fun p => kfD p.1).map O.d)) g) := ⟨fun h => ⟨_, rfl, h⟩⟩
instance s_lsdT {kos : List (List Key × O)} : Stp (LsdK A (.dT kos) g) (Sd ((kos.all fun p => p.1.all kI) = true) (A (.lst ((kos.map fun p => tupD p.1).map O.d)) g)) := ⟨fun h => ⟨_, by simp only [lsdF]; rw [if_pos h.l], h.r⟩⟩
instance s_lsdG {kos : List (List Key × PyData)} : Stp (LsdK A (.gD kos) g) (Sd ((kos.all fun p => p.1.all kI) = true) (A (.lst ((kos.map fun p => tupD p.1).map O.d)) g)) := ⟨fun h => ⟨_, by simp only [lsdF]; rw [if_pos h.l], h.r⟩⟩
theorem wp_ghP {π : Pth} {mf : M Fl} (h : getPl g i π = some x) (k : Wp (mf (setPl g i π (stF x))) AF B) : Wp (ghPF i π mf g) AF B := by
  unfold ghPF
  rw [h]
  exact k
end
end Z
namespace Z
open PySem PySem.Spec L2
def compLM (vs : List Nat) (i : Nat) (set : O → M Unit) (tst : M Bool) (elt : M O) : M O := fun g => match g[i]? with
  | some (some (.lst os)) => match allD os with
    | some ds => (compM vs (M.ret ds) set tst elt (g.set i none)).noX.bd fun o g' => .ok o (g'.set i (some (.lst os)))
    | none => .bad
  | _ => .bad
def BackK (i : Nat) (x : O) (A : O → Gs → Prop) (o : O) (g : Gs) : Prop := A o (g.set i (some x))
section
variable {A : O → Gs → Prop} {B : Exn → Gs → Prop} {g g1 g' : Gs} {i : Nat} {ds : List PyData} {vs : List Nat} {set : O → M Unit} {tst : M Bool} {me : M O} {o x : O}
instance s_compL [h : Get g i (some (.lst (ds.map O.d)))] [p : Put g i none g1] : Stp (Wp (compLM vs i set tst me g) A B) (Wp (compM vs (M.ret ds) set tst me g1) (BackK i (.lst (ds.map O.d)) A) NoB) := ⟨fun k => by
  unfold compLM
  simp only [h.get, allD_map]
  rw [p.put]
  exact Res.wp_bd.mpr (Res.wp_noX.mpr k)⟩
instance s_back [p : Put g i (some x) g'] : Stp (BackK i x A o g) (A o g') := ⟨fun k => by unfold BackK; rw [p.put]; exact k⟩
end
end Z
namespace ZT
open PySem PyProof.Rows TS
def up1 (ns : List Int) : List Int := ns.map (· + 1)
def Ok1 (h : Heap) (d : Nat) (B : Int) (vs : List Value) : Prop := ∀ v, v ∈ vs → ∃ ns, TupInts h v ns ∧ ns.length = d ∧ Bd B (up1 ns)
theorem Ok1.keeps {h h' : Heap} {d : Nat} {B : Int} {vs : List Value} (x : Ok1 h d B vs) (k : ∀ b o, h.get? b = some o → o.cls = .type "tuple" → h'.get? b = some o) : Ok1 h' d B vs := fun v hv =>
  let ⟨ns, t, r⟩ := x v hv; ⟨ns, t.keeps k, r⟩
end ZT
namespace Z
open PySem PySem.Spec L2
end Z
namespace Z
open PySem PySem.Spec L2
@[reducible] def B0 : Int := 1000000
end Z
namespace L2
open PySem PySem.Spec PyProof.Rows
end L2
namespace Z
open PySem PySem.Spec L2
def disp1T (mk mv : M O) : M O := fun g => (mk g).noX.bd fun ok g1 => (mv g1).noX.bd fun ov g2 => match ok with
  | .d (.tuple ds) => match intsOf ds with
    | some is => .ok (.dT [(kk is, ov)]) g2
    | none => .bad
  | _ => .bad
def disp1K (mk mv : M O) : M O := fun g => (mk g).noX.bd fun ok g1 => (mv g1).noX.bd fun ov g2 => match ok with
  | .d (.int i) => .ok (.dK [(.inl i, ov)]) g2
  | _ => .bad
section
variable {A : O → Gs → Prop} {B : Exn → Gs → Prop} {g : Gs} {mk mv : M O}
def D1TK (mv : M O) (A : O → Gs → Prop) : O → Gs → Prop
  | .d (.tuple ds), g => ∃ is, ds = is.map PyData.int ∧ Wp (mv g) (fun ov g2 => A (.dT [(kk is, ov)]) g2) NoB
  | _, _ => False
instance s_disp1T : Stp (Wp (disp1T mk mv g) A B) (Wp (mk g) (D1TK mv A) NoB) := ⟨fun h => by
  unfold disp1T
  refine Res.wp_bd.mpr (Res.wp_noX.mpr (h.mono (fun ok g1 q => ?_) fun _ _ z => z))
  unfold D1TK at q
  split at q
  · obtain ⟨is, rfl, q⟩ := q
    refine Res.wp_bd.mpr (Res.wp_noX.mpr (q.mono (fun ov g2 z => ?_) fun _ _ z => z))
    simp only [intsOf_map]
    exact z
  · exact q.elim⟩
def D1KK (mv : M O) (A : O → Gs → Prop) : O → Gs → Prop
  | .d (.int i), g => Wp (mv g) (fun ov g2 => A (.dK [(.inl i, ov)]) g2) NoB
  | _, _ => False
instance s_disp1K : Stp (Wp (disp1K mk mv g) A B) (Wp (mk g) (D1KK mv A) NoB) := ⟨fun h => by
  unfold disp1K
  refine Res.wp_bd.mpr (Res.wp_noX.mpr (h.mono (fun ok g1 q => ?_) fun _ _ z => z))
  unfold D1KK at q
  split at q
  · exact Res.wp_bd.mpr (Res.wp_noX.mpr (q.mono (fun ov g2 z => z) fun _ _ z => z))
  · exact q.elim⟩
instance s_d1TK [t : ItsC ds is] : Stp (D1TK mv A (.d (.tuple ds)) g) (Wp (mv g) (fun ov g2 => A (.dT [(kk is, ov)]) g2) NoB) := ⟨fun h => ⟨is, t.eq, h⟩⟩
instance s_d1KK {i : Int} : Stp (D1KK mv A (.d (.int i)) g) (Wp (mv g) (fun ov g2 => A (.dK [(.inl i, ov)]) g2) NoB) := ⟨id⟩
end
end Z
namespace Z
open PySem PySem.Spec L2
end Z
namespace EnL
open PySem PyProof.Rows
/-- the next item where the object still holds its last tuple -/
theorem heldD {prog : Program} {w : World} {A : Around} {E : Value → Shared → Prop} {s : Shared} {e it T : Addr} {fp : List Addr} {n i : Nat} {P : Nat → Value → Prop} {DS : Nat → Heap → Prop} {old : Value} {f : Bool} {oT : Obj} {Q : Value → Shared → Prop}
    (D : Draws prog w A it fp n P DS) (he : IsEnumHeld s.heap e it i old T f) (hT : s.heap.get? T = some oT) (hTe : T ≠ e) (hTi : T ≠ it) (hst : DS i s.heap) (hlt : i < n) (hne : e ≠ it) (hef : e ∉ fp)
    (hQ : ∀ x h' tk, P i x → IsEnumHeld h' e it ((i : Int) + 1) old T true → DS (i + 1) h' →
      h'.get? s.heap.objs.size = some { cls := .type "tuple", data := .seq #[.int i tk, x] } → h'.objs.size = s.heap.objs.size + 1 →
      (∀ b o, b ≠ e → b ≠ it → s.heap.get? b = some o → h'.get? b = some o) → Q (.ref s.heap.objs.size) { s with heap := h', toks := tk + 1 }) :
    wpAny (model prog w) A (Builtin.«enumerate.__next__» ⟨[.ref e], []⟩) (fun fin s' => ∃ v, fin = .done (.ret v) ∧ Q v s') E s := by
  obtain ⟨hp, g, d, tk₀, os⟩ := s
  show wpAny _ _ (field (.ref e) 2 >>= _) _ _ _
  refine wpAny_bind (wpAny_field he rfl (x := .ref it) rfl ?_)
  refine wpAny_bind (D.item i _ _ _ hlt hst fun x h₁ tk hPx hit₁ hs₁ => ?_)
  replace hs₁ : Heap.SameBut it hp h₁ := hs₁
  have he₁ : IsEnumHeld h₁ e it i old T f := (hs₁.2 e hne).trans he
  show wpAny _ _ (field (.ref e) 3 >>= _) _ _ ⟨h₁, g, d, tk, os⟩
  refine wpAny_bind (wpAny_field he₁ rfl (x := rawInt i) rfl ?_)
  show wpAny _ _ (field (.ref e) 4 >>= _) _ _ ⟨h₁, g, d, tk, os⟩
  refine wpAny_bind (wpAny_field he₁ rfl (x := .none) rfl ?_)
  show wpAny _ _ (mkInt i >>= _) _ _ ⟨h₁, g, d, tk, os⟩
  refine wpAny_bind (wpAny_mkInt ?_)
  show wpAny _ _ (setField (.ref e) 3 (rawInt ((i : Int) + 1)) >>= _) _ _ ⟨h₁, g, d, tk + 1, os⟩
  refine wpAny_bind (wpAny_setField_rec he₁ (by simp) fun h₂ he₂ hs₂ => ?_)
  replace hs₂ : Heap.SameBut e h₁ h₂ := hs₂
  replace he₂ : IsEnumHeld h₂ e it ((i : Int) + 1) old T f := he₂
  show wpAny _ _ (setField (.ref e) 4 .none >>= _) _ _ ⟨h₂, g, d, tk + 1, os⟩
  refine wpAny_bind (wpAny_setField_rec he₂ (by simp) fun h₃ he₃ hs₃ => ?_)
  replace hs₃ : Heap.SameBut e h₂ h₃ := hs₃
  replace he₃ : IsEnumHeld h₃ e it ((i : Int) + 1) old T f := he₃
  show wpAny _ _ (newTuple [.int i tk, x] >>= _) _ _ ⟨h₃, g, d, tk + 1, os⟩
  refine wpAny_bind (wpAny_newTuple ?_)
  have he₄ : IsEnumHeld (h₃.push { cls := .type "tuple", data := .seq #[.int i tk, x] }) e it ((i : Int) + 1) old T f := Heap.get?_push_of_some _ he₃
  generalize hh₄ : h₃.push { cls := .type "tuple", data := .seq #[.int i tk, x] } = h₄ at he₄
  have hsz : h₃.objs.size = hp.objs.size := by rw [hs₃.1, hs₂.1, hs₁.1]
  have hel : e < hp.objs.size := Heap.lt_size he
  have ht₄ : h₄.get? hp.objs.size = some { cls := .type "tuple", data := .seq #[.int i tk, x] } := by rw [← hh₄, ← hsz]; exact Heap.get?_push_size _ rfl
  have hz₄ : h₄.objs.size = hp.objs.size + 1 := by rw [← hh₄, Heap.size_push, hsz]
  have hk₄ : ∀ b o, b ≠ e → b ≠ it → hp.get? b = some o → h₄.get? b = some o := fun b o hbe hbi hb => by
    rw [← hh₄]; exact Heap.get?_push_of_some _ (hs₃.extBut b o hbe (hs₂.extBut b o hbe (hs₁.extBut b o hbi hb)))
  have hit₄ : DS (i + 1) h₄ := D.frame _ _ _ hit₁ fun b hb o y => by
    have hbe : b ≠ e := fun q => hef (q ▸ hb)
    rw [← hh₄]; exact Heap.get?_push_of_some _ (hs₃.extBut b o hbe (hs₂.extBut b o hbe y))
  show wpAny _ _ (Builtin.SmallTypes.ownedTupleIsFree (.ref e) >>= _) _ _ ⟨h₄, g, d, tk + 1, os⟩
  rw [hsz]
  clear hh₄ he₃ hs₃ he₂ hs₂ he₁ hs₁ hit₁ hsz h₃ h₂ h₁
  refine wpAny_bind (wpAny_tupleHeld_enum (s := ⟨h₄, g, d, tk + 1, os⟩) he₄ (hk₄ T oT hTe hTi hT) fun h₅ he₅ hs₅ => ?_)
  replace hs₅ : Heap.SameBut e h₄ h₅ := hs₅
  simp only [Bool.false_eq_true, if_false]
  refine wpAny_pure ⟨_, rfl, hQ x h₅ tk hPx he₅ (D.frame _ _ _ hit₄ fun b hb o y => hs₅.extBut b o (fun q => hef (q ▸ hb)) y) (hs₅.extBut _ _ (Nat.ne_of_gt hel) ht₄) ?_ fun b o hbe hbi hb => hs₅.extBut b o hbe (hk₄ b o hbe hbi hb)⟩
  show h₅.objs.size = hp.objs.size + 1
  rw [hs₅.1, hz₄]
theorem heldItem {prog : Program} {w : World} {A : Around} {E : Value → Shared → Prop} {s : Shared} {e it T : Addr} {fp : List Addr} {n i : Nat} {P : Nat → Value → Prop} {DS : Nat → Heap → Prop} {old : Value} {f : Bool} {oT : Obj} {Q : Option Value → Shared → Prop}
    (D : Draws prog w A.in1 it fp n P DS) (he : IsEnumHeld s.heap e it i old T f) (hT : s.heap.get? T = some oT) (hTe : T ≠ e) (hTi : T ≠ it) (hst : DS i s.heap) (hlt : i < n) (hne : e ≠ it) (hef : e ∉ fp)
    (hQ : ∀ x h' tk, P i x → IsEnumHeld h' e it ((i : Int) + 1) old T true → DS (i + 1) h' →
      h'.get? s.heap.objs.size = some { cls := .type "tuple", data := .seq #[.int i tk, x] } → h'.objs.size = s.heap.objs.size + 1 →
      (∀ b o, b ≠ e → b ≠ it → s.heap.get? b = some o → h'.get? b = some o) → Q (some (.ref s.heap.objs.size)) { s with heap := h', toks := tk + 1 }) :
    wpAny (model prog w) A (pyNext (.ref e)) Q E s := by
  have hTy : s.TypeIs (.ref e) "enumerate" := ⟨_, he, rfl⟩
  unfold pyNext
  exact wpAny_bind (wpAny_attempt (wpAny_callSpecial?_slot (name := Str.ofString "__next__") hTy F.slot_enumerate_next
    (wpAny_call_entry F.slot_enumerate_next hTy F.entry_enumerate_next
      (heldD D he hT hTe hTi hst hlt hne hef fun x h' tk a1 a2 a3 a4 a5 a6 => wpAny_pure (hQ x h' tk a1 a2 a3 a4 a5 a6)) (F.args_enumerate_next_1 _))))
theorem heldEnd {prog : Program} {w : World} {A : Around} {E : Value → Shared → Prop} {s : Shared} {e it T : Addr} {fp : List Addr} {n : Nat} {i : Int} {P : Nat → Value → Prop} {DS : Nat → Heap → Prop} {old : Value} {f : Bool} {Q : Option Value → Shared → Prop}
    (D : Draws prog w A.in1 it fp n P DS) (he : IsEnumHeld s.heap e it i old T f) (hst : DS n s.heap)
    (hQ : ∀ h', Heap.ExtBut it s.heap h' → Q none { s with heap := h' }) : wpAny (model prog w) A (pyNext (.ref e)) Q E s := by
  have hTy : s.TypeIs (.ref e) "enumerate" := ⟨_, he, rfl⟩
  unfold pyNext
  refine wpAny_bind (wpAny_attempt (wpAny_callSpecial?_slot (name := Str.ofString "__next__") hTy F.slot_enumerate_next
    (wpAny_call_entry F.slot_enumerate_next hTy F.entry_enumerate_next ?_ (F.args_enumerate_next_1 _))))
  show wpAny _ _ (field (.ref e) 2 >>= _) _ _ _
  refine wpAny_bind (wpAny_field he rfl (x := .ref it) rfl ?_)
  refine wpAny_bind (D.done _ _ _ hst fun h' x he' hx' => ?_)
  obtain ⟨o, ho, hc⟩ := hx'
  refine wpAny_bind (wpAny_isInstance (T := "StopIteration") (b := true) ⟨o, ho, hc⟩ isSubtype_stop ?_)
  exact wpAny_pure (hQ _ he')
/-- an enumerate object that has told i items -/
def St (DS : Nat → Heap → Prop) (S : Addr) (h : Heap) (e it : Addr) (i : Nat) : Prop := DS i h ∧ ((∃ old, IsEnum h e it i old) ∨ ∃ old T f oT, IsEnumHeld h e it i old T f ∧ h.get? T = some oT ∧ T ≠ e ∧ T ≠ it ∧ T ≠ S)
theorem St.lt {DS : Nat → Heap → Prop} {S : Addr} {h : Heap} {e it : Addr} {i : Nat} (st : St DS S h e it i) : e < h.objs.size := by
  obtain ⟨_, he⟩ := st
  rcases he with ⟨_, he⟩ | ⟨_, _, _, _, he, _⟩
  · exact Heap.lt_size he
  · exact Heap.lt_size he
section
variable {prog : Program} {w : World} {A : Around} {E : Value → Shared → Prop} {s : Shared} {e it : Addr} {fp : List Addr} {DS : Nat → Heap → Prop} {items : Array Value} {i : Nat} {Q : Option Value → Shared → Prop}
theorem St.keep {P : Nat → Value → Prop} {n : Nat} (D : Draws prog w A it fp n P DS) {h h' : Heap} {S : Addr} (st : St DS S h e it i) (k : ∀ b o, b ≠ S → h.get? b = some o → h'.get? b = some o) (he : e ≠ S) (hf : S ∉ fp) : St DS S h' e it i := by
  obtain ⟨h1, h3⟩ := st
  refine ⟨D.frame _ _ _ h1 fun b hb o x => k _ o (fun q => hf (q ▸ hb)) x, ?_⟩
  rcases h3 with ⟨old, x⟩ | ⟨old, T, f, oT, x, y, r1, r2, r3⟩
  · exact .inl ⟨old, k _ _ he x⟩
  · exact .inr ⟨old, T, f, oT, k _ _ he x, k _ _ r3 y, r1, r2, r3⟩
theorem next {S : Addr} (D : Draws prog w A.in1 it fp items.size (fun i x => items[i]? = some x) DS) (hS : S < s.heap.objs.size) (st : St DS S s.heap e it i) (hi : i < items.size) (hei : e ≠ it) (hef : e ∉ fp)
    (hQ : ∀ h' t tk, St DS S h' e it (i + 1) → h'.get? s.heap.objs.size = some { cls := .type "tuple", data := .seq #[.int i t, items[i]] } → h'.objs.size = s.heap.objs.size + 1 →
      (∀ b o, b ≠ e → b ≠ it → s.heap.get? b = some o → h'.get? b = some o) → Q (some (.ref s.heap.objs.size)) { s with heap := h', toks := tk }) : wpAny (model prog w) A (pyNext (.ref e)) Q E s := by
  obtain ⟨hd, he⟩ := st
  have ec : ((i + 1 : Nat) : Int) = (i : Int) + 1 := by omega
  have nit : s.heap.objs.size ≠ it := let ⟨_, x⟩ := D.live _ _ hd; Nat.ne_of_gt (Heap.lt_size x)
  have ix : ∀ {x}, items[i]? = some x → items[i] = x := fun {x} q => by rw [Array.getElem?_eq_getElem hi] at q; exact Option.some.inj q
  rcases he with ⟨old, he⟩ | ⟨old, T, f, oT, he, hT, r1, r2, r3⟩
  · refine wpAny_pyNext_enum_itemD D he hd hi hei hef fun x h' tk hP ho hd' hT hsz hk => ?_
    rw [← ix hP] at hT
    exact hQ h' _ _ ⟨hd', .inr ⟨_, s.heap.objs.size, false, _, (by rw [ec]; exact ho), hT, Nat.ne_of_gt (Heap.lt_size he), nit, Nat.ne_of_gt hS⟩⟩ hT hsz hk
  · refine heldItem D he hT r1 r2 hd hi hei hef fun x h' tk hP ho hd' hT' hsz hk => ?_
    rw [← ix hP] at hT'
    exact hQ h' _ _ ⟨hd', .inr ⟨old, T, true, oT, (by rw [ec]; exact ho), hk _ _ r1 r2 hT, r1, r2, r3⟩⟩ hT' hsz hk
theorem fin {S : Addr} (D : Draws prog w A.in1 it fp items.size (fun i x => items[i]? = some x) DS) (st : St DS S s.heap e it items.size) (hQ : ∀ h', Heap.ExtBut it s.heap h' → Q none { s with heap := h' }) : wpAny (model prog w) A (pyNext (.ref e)) Q E s := by
  obtain ⟨hd, he⟩ := st
  rcases he with ⟨old, he⟩ | ⟨old, T, f, oT, he, hT, r1, r2, r3⟩
  · exact wpAny_pyNext_enum_endD D he hd hQ
  · exact heldEnd D he hd hQ
end
structure Made (items : Array Value) (lo : Addr) (h : Heap) (as : List Addr) : Prop where
  rise : as.Pairwise (· < ·)
  above : ∀ a ∈ as, lo < a
  pairs : ∀ (j : Nat) (a : Addr), as[j]? = some a → ∃ t x, items[j]? = some x ∧ h.get? a = some { cls := .type "tuple", data := .seq #[.int j t, x] }
theorem Made.there {items : Array Value} {lo : Addr} {h : Heap} {as : List Addr} (g : Made items lo h as) {a : Addr} (ha : a ∈ as) : a < h.objs.size := by
  obtain ⟨j, hj⟩ := List.mem_iff_getElem?.mp ha
  obtain ⟨_, _, _, e⟩ := g.pairs j a hj
  exact Heap.lt_size e
end EnL
namespace Z
open PySem PySem.Spec L2
end Z
namespace Z
open PySem PySem.Spec L2
end Z
namespace Z
open PySem PySem.Spec PyProof.Rows L2
section
variable {X : Cx} {o e : Expr} {es : List Expr} {to te : TE} {ta : TA} {f : Str} {p p1 p2 pos : Pos}
/-- B.__init__(self, ..), B a class of the text over ValueError without its own -/
theorem pe_beinit {x : Str} {CB : Addr} {mc : Value} {pl : Sem Bool} (hg : Gl X x) (hm : X.mg x = some (.ref CB)) (rd : ClX.CRead X.K CB mc) (vV : PySem.W.findCls X.K (.ref CB) mc "__init__" = some (.val (.builtin "ValueError.__init__"))) (ha : PA X (e :: es) ta)
    (hdb : (x == ("__debug__" : Str)) = false := by decide)
    (hc : eval (.Call (.Attribute (.Name x p1) "__init__" p2) (e :: es) [] pos) X.env = (do
      let ov ← eval (.Name x p1) X.env
      standAt p2.atName
      let (f, first) ← holding [ov] (getMethod ov "__init__" pl)
      callWith pos f first (backTo pos (starEach (e :: es) X.env)) (backToKw pos (keywordEach [] X.env))) := by rfl)
    (he : starEach (e :: es) X.env = (false, eval e X.env) :: starEach es X.env := by rfl) (hpl : (backTo pos (starEach es X.env)).any (·.1) = false := by rfl) :
    PE X (.Call (.Attribute (.Name x p1) "__init__" p2) (e :: es) [] pos) (tVeI X.K ta) := by
  refine ⟨fun pins s σ H Q I h => ?_⟩
  refine PySem.W.methodCall_KW (ld_glob I hg hm ?_ hdb) hc
  refine PySem.W.method_cls I.kIn rd.ga (PySem.W.cls_value I.kIn rd.rd vV (by decide +kernel) ?_)
  show wpAny _ _ (callWith pos (Value.builtin "ValueError.__init__") [] (backTo pos (starEach (e :: es) X.env)) []) _ _ _
  refine PyProof.Rows.callWith_method1 (thn (ha.run pos pins _ σ H _ (I.tok _) h) fun us s1 ⟨vs, H1, I1, r1, a, C, ws, ev, hl, T, ea, q⟩ => ?_) he hpl
  subst ev
  cases r1 with
  | @cons _ u0 _ ur ra rw' =>
    obtain rfl : u0 = Value.ref a := ra
    have hlen : ur.length ≤ sizeLine := by
      rw [← Paired.length rw', sizeLine_eq]
      omega
    exact oinit_ok T I1 ea hlen fun s' J => ⟨.non, H1, J, rfl, q⟩
end
/-- what an __init__ of such a class does: one field, of its one argument -/
def spI (K : PySem.W.Frag) (fn : Str) : Sp := fun vs H Q E => ∃ (a C : Addr) (v : V), vs = [.ref a, v] ∧ OexC K C ∧ PySem.W.findIn K (.ref C) fn = some none ∧ H a = some (exo a C none) ∧
  ∀ dx, H dx = none → dx ≠ a → Q .non (upd (upd H dx (exd dx [(fn, v)])) a (exo a C (some dx)))
/-- an exception class of the text that is made with one thing, kept in a field -/
structure XMak (P : Program) (w : World) (K : PySem.W.Frag) (mg : Str → Option Value) (base : Heap) (c fn : Str) : Prop where
  ex : ∃ (C fI : Addr) (fd : FuncData) (ps : List Str), mg c = some (.ref C) ∧ OexC K C ∧ PySem.W.findIn K (.ref C) "__init__" = some (some (.ref fI)) ∧ PySem.W.typeIn K (.ref fI) = some (.type "function") ∧
    PySem.W.findIn K (.ref C) fn = some none ∧ FnOk P w K mg base (L2.CX P w) 1 fI fd ps (spI K fn) ∧ L2.Binds K fd ps []
/-- its __init__ -/
theorem initRule {P : Program} {w : World} {K : PySem.W.Frag} {mg : Str → Option Value} {base : Heap} {qual : Str} {st : Stmt} {f : Addr} {fd : FuncData} {N ps : List Str} {fn : Str} (F : Fun K "__init__" qual st f fd) (S : FnScope N ps (defScope st)) (hps : ps.length = 2)
    (hb : ∀ (cdv : Value) (A : Around) (outer : List Env) (s : Shared) (H : Hp) (E : XK) (a C : Addr) (v : V), OexC K C → PySem.W.findIn K (.ref C) fn = some none →
      ∃ t, PSs (cxOf (L2.CX P w) P w K mg base N qual (defScope st) f cdv A outer s H E) (defBody st) t ∧ ∀ (D : Ends) (σ : L2.St), σ[0]? = some (some (.ref a)) → σ[1]? = some (some v) → H a = some (exo a C none) →
        (∀ dx, H dx = none → dx ≠ a → D.nx σ (upd (upd H dx (exd dx [(fn, v)])) a (exo a C (some dx)))) → t D σ H) :
    FnOk P w K mg base (L2.CX P w) 1 f fd ps (spI K fn) := by
  refine F.okX (k := 0) S (fun vs H Q E h => ?_) (fun cdv A outer s H vs Q E hr h => ?_)
  · obtain ⟨a, C, v, e, _⟩ := h
    rw [e, hps]; rfl
  · obtain ⟨a, C, v, e, T, hno, ha, q⟩ := h
    subst e
    obtain ⟨t, h1, h2⟩ := hb cdv A outer s H E a C v T hno
    exact ⟨t, h1, h2 _ _ rfl rfl ha fun dx n ne => q dx n ne⟩
end Z
namespace Z
open PySem PySem.Spec PyProof.Rows L2
def raiM (c f : Str) (m : M O) : M Fl := M.bd m fun o g => match o with
  | .d x => if flatF x = true then .ex ⟨c, [(f, x)]⟩ g else .bad
  | _ => .bad
theorem wpRai {o : O} {c f : Str} {g : Gs} {A : Fl → Gs → Prop} {B : Exn → Gs → Prop} (h : Wp ((fun o g => match o with
  | O.d x => if flatF x = true then .ex ⟨c, [(f, x)]⟩ g else .bad
  | _ => .bad : O → M Fl) o g) A B) : ∃ x, o = .d x ∧ flatF x = true ∧ B ⟨c, [(f, x)]⟩ g := by
  cases o with
  | d x =>
    dsimp only at h
    split at h
    · rename_i q; exact ⟨x, rfl, q, h⟩
    · exact h.elim
  | _ => exact h.elim
theorem flat_v {K : PySem.W.Frag} {H : Hp} {v : V} {x : PyData} (h : Dp K H v x) (f : flatF x = true) : v = vF x := by
  cases h with
  | non => rfl
  | bl b => rfl
  | int i => rfl
  | str s => rfl
  | lst _ _ => cases f
  | tup _ _ _ => cases f
  | ftup _ _ _ _ => cases f
theorem Rel.flat {K : PySem.W.Frag} {mg : Str → Option Value} {H : Hp} {Ex : List (Addr × HO)} {rs ws : Roots} {v : V} {x : PyData} (r : Rel K mg H Ex ((v, .d x) :: rs) ws) (f : flatF x = true) : v = vF x := by
  obtain ⟨Hf, as, s, he, ho, nd, hn, hw⟩ := r.ex
  cases ho with
  | cons h t => cases h with | d h => exact flat_v h f
theorem Rel.notEx {K : PySem.W.Frag} {mg : Str → Option Value} {H : Hp} {Ex : List (Addr × HO)} {rs ws : Roots} {d : Addr} (r : Rel K mg H Ex rs ws) (h : H d = none) : d ∉ Ex.map (·.1) := by
  obtain ⟨Hf, as, s, he, ho, nd, hn, hw⟩ := r.ex
  intro m
  obtain ⟨e, me, rfl⟩ := List.mem_map.mp m
  rw [he e me] at h; cases h
theorem upd_del_exo {H : Hp} {a C d : Addr} {fs : List (Str × V)} (na : H a = none) (nd : d ≠ a) :
    upd (L2.del (upd (upd (upd H a (exo a C none)) d (exd d fs)) a (exo a C (some d))) a) d (.xd fs) = upd H d (.xd fs) := by
  funext b
  by_cases hd : b = d
  · rw [hd, upd_same, upd_same]
  · rw [upd_ne hd, upd_ne hd]
    by_cases ha : b = a
    · rw [ha, L2.del_same, na]
    · rw [L2.del_ne ha, upd_ne ha, upd_ne hd, upd_ne ha]
theorem sameUpd {H : Hp} {a : Addr} {o : HO} (h : H a = none) : Same H (upd H a o) := fun b u e => by
  rw [upd_ne fun z => by rw [z, h] at e; cases e]
  exact e
section
variable {X : Cx} {W : WX} {pu : Bool} {e : Expr} {m : M O} {pos pos' p : Pos} {k np : Nat}
theorem es_raise1 {c f x : Str} (cc : Cc X W k) (xm : XMak X.prog X.w X.K X.mg X.base c f) (hj : 2 ≤ k) (h : Ev X W pu e m) (hx : x = c := by rfl) (hg : Gl X x := by rfl)
    (hdb : (x == ("__debug__" : Str)) = false := by decide) (he : starEach [e] X.env = (false, eval e X.env) :: starEach [] X.env := by rfl) (hpl : (backTo pos (starEach [] X.env)).any (·.1) = false := by rfl) :
    EvS X W np (.Raise (some (.Call (.Name x p) [e] [] pos)) none pos') (raiM c f m) := by
  subst hx
  obtain ⟨C, fI, fd, ps, hm, T, iC, tI, hno, F, hb⟩ := xm.ex
  obtain ⟨t, h1, h2⟩ := h.ex
  refine ⟨_, ps_raise cc.calm cc.tk (pmk_oex T iC tI F (cc.hr.mono hj).r hb .nil (fun _ _ _ _ _ _ _ z => ?_) hg hm (pa_cons h1 pa_nil he) hdb he hpl), fun σ H D g T0 Ex a w => ?_⟩
  · obtain ⟨_, _, _, _, _, _, _, _, _, _, _, _, z⟩ := z
    exact z.elim
  refine h2 σ H _ g T0 Ex [] a (w.bd.imp (fun o g' kk v H1 s a' => ?_) fun x g' kk H' cls d a' e => kk σ H' cls d .refl a' e)
  obtain ⟨x, rfl, fx, kk⟩ := wpRai kk
  have hv := a'.rel.perm List.perm_middle |>.flat fx
  subst hv
  refine ⟨by show 1 ≤ 1000; decide, fun b nb => ⟨b, C, vF x, rfl, T, hno, by rw [upd_same], fun dx ndx ne => ?_⟩⟩
  have n1 : H1 dx = none := by rw [← ndx, upd_ne ne]
  refine ⟨rfl, dx, [(f, vF x)], by rw [upd_same], by rw [upd_ne ne, upd_same], n1, ?_⟩
  rw [upd_del_exo nb ne]
  refine kk σ _ _ _ .refl ((a'.drop.same (sameUpd n1)).noV) ⟨C, rfl, hm, .inr ⟨dx, rfl, by rw [upd_same]; rfl, a'.rel.notEx n1, fun p m => ?_⟩⟩
  rw [List.mem_singleton.mp m]
  exact fx
def raiM0 (c : Str) : M Fl := fun g => .ex ⟨c, []⟩ g
end
end Z
namespace Z
open PySem PySem.Spec PyProof.Rows L2
def Res.excR {α : Type} : Res α → (Exn → Gs → Res α) → Res α
  | .ok a g, _ => .ok a g
  | .ex x g, h => h x g
  | .bad, _ => .bad
  | .all f, h => .all fun v => (f v).excR h
def Res.exc {α : Type} (r : Res α) (h : Exn → Gs → Res α) : Res α := match r with
  | .ok a g => .ok a g
  | .ex x g => h x g
  | .bad => .bad
  | .all f => .all fun v => (f v).excR h
theorem Res.excR_eq {α : Type} {h : Exn → Gs → Res α} : ∀ {r : Res α}, r.excR h = r.exc h
  | .ok _ _ => rfl
  | .ex _ _ => rfl
  | .bad => rfl
  | .all _ => rfl
theorem Res.wp_exc {α : Type} {h : Exn → Gs → Res α} {A : α → Gs → Prop} {B : Exn → Gs → Prop} : ∀ {r : Res α}, Wp (r.exc h) A B ↔ Wp r A (fun x g => Wp (h x g) A B)
  | .ok a e => Iff.rfl
  | .ex x e => Iff.rfl
  | .bad => Iff.rfl
  | .all g => wp_all.trans ((forall_congr' fun v => by rw [Res.excR_eq]; exact Res.wp_exc (r := g v)).trans wp_all.symm)
/-- what an except clause does with what it takes -/
def hanM (hs : List Str) (i : Nat) (ms : M Fl) (x : Exn) (g : Gs) : Res Fl :=
  if x.c ∈ hs then ((ms (g.set i (some (.exc x.c x.fs)))).noX).bd fun fl g2 => .ok fl (g2.set i none) else .bad
def tryM (hs : List Str) (i : Nat) (mb ms : M Fl) : M Fl := fun g => (mb g).exc (hanM hs i ms)
/-- the context of an except suite, where the exception is tracked -/
abbrev suite0 (X : Cx) (a : Addr) (pn : List (Addr × Obj)) : Cx := { X with A := X.A.mark (some (.ref a)), calm := false, pn := pn, xe := fun _ _ => False }
theorem suite0_ok {X : Cx} (ok : X.Ok) (a : Addr) (pn : List (Addr × Obj)) : (suite0 X a pn).Ok :=
  ⟨ok.mod, ok.kind, ok.glob, ok.blt, ok.above, ok.inj, ok.has, ok.cab, (fun z => absurd (show false = true from z) Bool.false_ne_true), ok.frames, ok.stk, ok.exf, ok.bs, ok.bsz, ok.noex, ok.exfs, ok.funs, ok.frf⟩
section
variable {X : Cx} {pins : List (Addr × Obj)} {σ : L2.St} {H : Hp} {s : Shared}
theorem toSuite0 (I : Inv X pins σ H s) {a : Addr} : Inv (suite0 X a (X.pn ++ pins)) [] σ H s :=
  ⟨suite0_ok I.ok _ _, I.os, I.bare, I.base, I.loc, I.cell, I.free, I.freeC, fun p hp => I.pin p (by rw [List.append_nil] at hp; exact hp), I.hok, I.len⟩
theorem ofSuite0 {a : Addr} {pn' : List (Addr × Obj)} (I : Inv (suite0 X a (X.pn ++ pins)) pn' σ H s) (ok : X.Ok) : Inv X pins σ H s :=
  ⟨ok, I.os, I.bare, I.base, I.loc, I.cell, I.free, I.freeC, fun p hp => I.pin p (List.mem_append_left _ hp), I.hok, I.len⟩
theorem exH_ok {P : Program} {w : World} {H : Hp} {h : Heap} {a : Addr} {cls : Value} {d : Option Addr} {oe : Obj} {vs : Array Value} (e : h.get? a = some oe) (z : Zc cls d oe) (hd : oe.data = .fields vs) : ObjOk P w H h a (exH a cls d) :=
  ⟨⟨oe, vs, e, z, hd⟩, ⟨oe, e⟩, fun _ _ ⟨o, v, q, r⟩ k => ⟨o, v, k o q, r⟩⟩
/-- the exception is tracked from now on -/
theorem landed_exH {sI s' : Shared} {B : Heap} {a : Addr} {cls : Value} {d : Option Addr} {oe : Obj} {vs : Array Value} (J : Inv X pins σ H sI) (nb : ∀ b o, sI.heap.get? b = some o → b ∉ frs X.stack → B.get? b = some o) (hB : B.get? a = none) (nfr : a ∉ frs X.stack) (st : B.StaysIn s'.heap) (up : sI.heap.UpToSlots s'.heap) (os : s'.os = sI.os) (ag : AllBare s'.gens)
    (na : H a = none) (he : s'.heap.get? a = some oe) (hz : Zc cls d oe) (hd : oe.data = .fields vs) : Inv X pins σ (upd H a (exH a cls d)) s' := by
  have sa : sI.heap.get? a = none := by
    cases q : sI.heap.get? a with
    | none => rfl
    | some o => rw [nb a o q nfr] at hB; cases hB
  obtain ⟨G, g1, g2⟩ := restrict s'.heap fun b => decide (b ≠ a)
  have gk : ∀ b, b ≠ a → G.get? b = s'.heap.get? b := fun b hb => g1 b (decide_eq_true hb)
  have ga : G.get? a = none := g2 a (decide_eq_false fun z => z rfl)
  obtain ⟨h0, gs, dr, tk, os0⟩ := s'
  have J2 : Inv X pins σ H ⟨G, gs, dr, tk, os0⟩ := J.landed (B := B) (s' := ⟨G, gs, dr, tk, os0⟩) nb (fun b o e => by
    have hb : b ≠ a := fun z => by rw [z, hB] at e; cases e
    exact (gk b hb).trans (st b o e)) (fun b o e hf => by
    have hb : b ≠ a := fun z => by rw [z, sa] at e; cases e
    obtain ⟨sl, q⟩ := up b o e hf
    exact ⟨sl, (gk b hb).trans q⟩) os ag
  exact J2.laidN (t' := tk) (fun b u e => by
    have hb : b ≠ a := fun z => by
      have e' : G.get? b = some u := e
      rw [z, ga] at e'; cases e'
    exact (gk b hb).symm.trans e) ga na (exH_ok he hz hd)
end
mutual
theorem owKind {K : PySem.W.Frag} {mg : Str → Option Value} {F : Fz} {fs : List (Str × V)} : ∀ {H : Hp} {v : V} {o : O} {as : List Addr}, Ow K mg F H v o as → ∀ a ∈ as, H a ≠ some (.xd fs)
  | _, _, _, _, .d _ => fun a h => nomatch h
  | _, _, _, _, .gL _ _ => fun a h => nomatch h
  | _, _, _, _, .gT _ _ => fun a h => nomatch h
  | _, _, _, _, .gD _ _ _ => fun a h => nomatch h
  | _, _, _, _, .gK _ _ _ => fun a h => nomatch h
  | _, _, _, _, .pin _ => fun a h => nomatch h
  | _, _, _, _, .fr _ _ => fun a h => nomatch h
  | _, _, _, _, .mem _ => fun a h => nomatch h
  | _, _, _, _, .hole => fun a h => nomatch h
  | _, _, _, _, .jk => fun a h => nomatch h
  | _, _, _, _, .exc _ _ _ => fun a h => nomatch h
  | _, _, _, _, .lst h t => fun a m z => by
    rcases List.mem_cons.mp m with e | m
    · subst e; rw [h] at z; cases z
    · exact owLKind t a m z
  | _, _, _, _, .tup h t => fun a m z => by
    rcases List.mem_cons.mp m with e | m
    · subst e; rw [h] at z; cases z
    · exact owLKind t a m z
  | _, _, _, _, .dK h _ t => fun a m z => by
    rcases List.mem_cons.mp m with e | m
    · subst e; rw [h] at z; cases z
    · exact owLKind t a m z
  | _, _, _, _, .dT h _ t => fun a m z => by
    rcases List.mem_cons.mp m with e | m
    · subst e; rw [h] at z; cases z
    · exact owLKind t a m z
  | _, _, _, _, .ins h _ _ t => fun a m z => by
    rcases List.mem_cons.mp m with e | m
    · subst e; rw [h] at z; cases z
    · exact owLKind t a m z
theorem owLKind {K : PySem.W.Frag} {mg : Str → Option Value} {F : Fz} {fs : List (Str × V)} : ∀ {H : Hp} {v : List V} {o : List O} {as : List Addr}, OwL K mg F H v o as → ∀ a ∈ as, H a ≠ some (.xd fs)
  | _, _, _, _, .nil => fun a h => nomatch h
  | _, _, _, _, .cons h t => fun a m => by
    rcases List.mem_append.mp m with m | m
    · exact owKind h a m
    · exact owLKind t a m
end
theorem flat_dp {K : PySem.W.Frag} {H : Hp} : ∀ {fs : List (Str × PyData)}, (∀ p ∈ fs, flatF p.2 = true) → DpAll K H (fs.map fun p => vF p.2) (fs.map (·.2))
  | [], _ => .nil
  | p :: r, h => by
    refine .cons ?_ (flat_dp fun q m => h q (List.mem_cons_of_mem _ m))
    have hp := h p List.mem_cons_self
    obtain ⟨n, x⟩ := p
    cases x with
    | none => exact .non
    | bool b => exact .bl b
    | int i => exact .int i
    | str s => exact .str s
    | _ => cases hp
/-- a caught exception as own data -/
theorem Rel.caught {K : PySem.W.Frag} {mg : Str → Option Value} {H : Hp} {Ex : List (Addr × HO)} {rs : Roots} {a C : Addr} {d : Option Addr} {x : Exn} (r : Rel K mg H Ex rs []) (na : H a = none) (hx : ExAt mg Ex (.ref C) d H x) :
    Rel K mg (upd H a (exH a (.ref C) d)) Ex ((.ref a, .exc x.c x.fs) :: rs) [] := by
  obtain ⟨C', eC, hm, hf⟩ := hx
  cases eC
  obtain ⟨Hf, as, s, he, ho, nd, hn, hw⟩ := r.ex
  have ts := owLThere ho
  have ne : ∀ {b : Addr} {u : HO}, H b = some u → b ≠ a := fun {b u} e z => by rw [z, na] at e; cases e
  have s' : Hf.on K (upd H a (exH a (.ref C) d)) := s.trans (sameUpd na)
  have core : ∀ L : List Addr, a ∈ L → (∀ b ∈ L, Hf.m b = none) → (∀ b ∈ Ex.map (·.1) ++ as, b ∉ L) → XdF K (frz Hf (upd H a (exH a (.ref C) d)) L).h d x.fs → Rel K mg (upd H a (exH a (.ref C) d)) Ex ((.ref a, .exc x.c x.fs) :: rs) [] := fun L mL hL nL hX => by
    have there : ∀ b ∈ Ex.map (·.1) ++ as, ∃ u, H b = some u := fun b m => by
      rcases List.mem_append.mp m with m | m
      · obtain ⟨q, mq, rfl⟩ := List.mem_map.mp m
        exact ⟨_, he q mq⟩
      · exact ts b m
    refine ⟨frz Hf _ L, as, frzIn s' L hL, fun e m => (upd_ne (ne (he e m))).trans (he e m), ?_, nd, fun b m => ⟨frzNot (nL b m) (hn b m).1, fun xs e => (hn b m).2 xs ?_⟩, fun p m => nomatch m⟩
    · refine .cons (as := []) (.exc (C := C) (d := d) ?_ hm hX) (owLMono (frzSame s'.same L) ho fun b m => ?_)
      · rw [frzAt mL, upd_same]
      · obtain ⟨u, hu⟩ := ts b m
        exact upd_ne (ne hu)
    · obtain ⟨u, hu⟩ := there b m
      rw [upd_ne (ne hu)] at e
      exact e
  have nma : Hf.m a = none := (s.free na).2
  have naL : ∀ b ∈ Ex.map (·.1) ++ as, b ≠ a := fun b m => by
    rcases List.mem_append.mp m with m | m
    · obtain ⟨q, mq, rfl⟩ := List.mem_map.mp m
      exact ne (he q mq)
    · obtain ⟨u, hu⟩ := ts b m
      exact ne hu
  rcases hf with hf | ⟨dd, rfl, hdd, nEx, fl⟩
  · exact core [a] List.mem_cons_self (fun b m => by rw [List.mem_singleton.mp m]; exact nma) (fun b m z => naL b m (List.mem_singleton.mp z)) (.inl hf)
  · refine core [a, dd] List.mem_cons_self (fun b m => ?_) (fun b m z => ?_) (.inr ⟨dd, _, rfl, (frzAt (by simp)).trans ((upd_ne (ne hdd)).trans hdd), ?_, ?_⟩)
    · rcases List.mem_cons.mp m with e | m
      · rw [e]; exact nma
      · rw [List.mem_singleton.mp m]
        cases q : Hf.m dd with
        | none => rfl
        | some g =>
          obtain ⟨_, kvs, h2, _⟩ := s.mem dd g q
          rw [hdd] at h2; cases h2
    · rcases List.mem_cons.mp z with e | z
      · exact naL b m e
      · have e := List.mem_singleton.mp z
        subst e
        rcases List.mem_append.mp m with m | m
        · exact nEx m
        · exact owLKind ho b m hdd
    · rw [List.map_map]; rfl
    · rw [List.map_map]; exact flat_dp fl
end Z
namespace Z
open PySem PySem.Spec PyProof.Rows L2
section
variable {X : Cx} {W : WX} {x n : Str} {cl : Value} {i np k : Nat} {body suite : List Stmt} {b₀ : Stmt} {npos pos pos' : Pos} {mb ms : M Fl} {hs : List Str}
theorem At.gone {H : Hp} {Ex : List (Addr × HO)} {σ : L2.St} {g : Gs} {T ws : Roots} (a : At X H Ex σ g T ws) (i : Nat) : At X H Ex (σ.set i none) (g.set i none) T ws := by
  refine ⟨⟨by rw [List.length_set, List.length_set]; exact a.fit.len, fun j o h => ?_⟩, ?_⟩
  · by_cases e : i = j
    · subst e
      rw [List.getElem?_set] at h
      simp at h
    · rw [List.getElem?_set_ne e] at h ⊢
      exact a.fit.at_ j o h
  · rw [rootsNone]
    exact a.rel.clr a.fit i
theorem es_tryAs (i : Nat) (cc : Cc X W k) (hnp : np ≤ i) (hc : Names X x cl) (hm : ∀ c ∈ hs, ∀ C, X.mg c = some (.ref C) → PySem.W.exmOne X.K (.ref C) cl = some true)
    (hb : ∀ (W' : WX) (pn : List (Addr × Obj)) (xe : Value → Shared → Prop), Cc (X.tr pn xe) W' k → EvSs (X.tr pn xe) W' np body mb)
    (hsu : ∀ (a : Addr) (pn : List (Addr × Obj)), (suite0 X a pn).N.Nodup → EvSs (suite0 X a pn) (fun _ _ _ _ => False) np (b₀ :: suite) ms)
    (hst : X.stack = X.env :: X.outer := by rfl) (hf : X.env.frame = some X.env.locals := by rfl) (hi : X.N[i]? = some n := by rfl) (hln : X.env.kindOf n = some .local := by rfl) :
    EvS X W np (.Try body [.ExceptHandler (some (.Name x npos)) (some n) (b₀ :: suite) pos'] [] [] pos) (tryM hs i mb ms) := by
  refine ⟨fun D σ H => ∀ (pins : List (Addr × Obj)) (s : Shared), Inv X pins σ H s → wpAny (model X.prog X.w) X.A (exec (.Try body [.ExceptHandler (some (.Name x npos)) (some n) (b₀ :: suite) pos'] [] [] pos) X.env) (SP X pins D) X.xe s,
    ⟨fun pins s σ H D I h => h pins s I⟩, fun σ H D g T Ex a w pins s I => ?_⟩
  have ok := I.ok
  have hN := cc.nd
  have hfr : X.A.frames = some (X.env :: X.outer) := by rw [ok.frames, hst]
  have hloc : Loc X.env.scope n := .inl hln
  let W' : WX := fun cls d σ' H' => ∃ (xx : Exn) (g' : Gs), Pin np σ σ' ∧ At X H' Ex σ' g' T [] ∧ ExAt X.mg Ex cls d H' xx ∧ Wp (hanM hs i ms xx g') (SPost X np σ T Ex D) (XPost X W np σ T Ex)
  have wb : Wp (mb g) (SPost X np σ T Ex D) (fun xx g' => Wp (hanM hs i ms xx g') (SPost X np σ T Ex D) (XPost X W np σ T Ex)) := Res.wp_exc.mp w
  refine wpAny_Try_except ?_
  let xe' : Value → Shared → Prop := fun e s₁ => wpAny (model X.prog X.w) X.A (noteFrame e X.env) (fun _ s₂ => wpAny (model X.prog X.w) X.A (setFlight e none) (fun _ s₃ =>
    wpAny (model X.prog X.w) X.A (handleBy e X.env [.ExceptHandler (some (.Name x npos)) (some n) (b₀ :: suite) pos']) (SP X pins D) X.xe s₃) X.xe s₂) X.xe s₁
  have tk' : Takes (X.tr (X.pn ++ pins) xe') W' := fun u s' xx => by
    obtain ⟨ad, B, sI, pins', σ', H', cls, d, rfl, J', nb, up, sky, na, os, ag, x0, g', pin, aX, xa, wX⟩ := xx
    have J : Inv X pins σ' H' sI := J'.ofTry ok
    have sky' : Sky B (X.env :: X.outer) ad (Zc cls d) X.env.locals s'.heap := by rw [← hst]; exact sky
    show wpAny (model X.prog X.w) X.A (noteFrame (.ref ad) X.env) _ _ _
    refine Sky.land Zc.steady hfr hf sky' fun h3 fl3 up3 => ?_
    have J3 : Inv X pins σ' H' { s' with heap := h3 } := J.landed nb fl3.1 (up.trans up3) os ag
    obtain ⟨oe3, vs3, he3, hz3, hd3⟩ := fl3.there
    have nfr : ad ∉ frs (X.env :: X.outer) := fun hm => by
      obtain ⟨_, o', e', hnf⟩ := fl3.2.2.1.mem hm
      rw [he3] at e'; cases e'
      exact hnf _ hd3
    unfold hanM at wX
    split at wX
    · rename_i hin
      obtain ⟨C, eC, mC, _⟩ := id xa
      subst eC
      have hb1 := hm _ hin C mC
      refine wpAny_handleBy_cons (codeAny_handlers_test ?_) (by intro q; cases q)
      have LT : PySem.W.Looks (model X.prog X.w) h3 (typeOf (.ref ad)) (.ref C) := fun A Q E s k q => wpAny_typeOf_ref (k _ _ he3) (by rw [hz3.1]; exact q)
      have LM := PySem.W.exm_one (M := model X.prog X.w) (J3.kIn) LT hb1
      have S3 : Inv (suite0 X ad (X.pn ++ pins)) [] σ' H' { s' with heap := h3 } := toSuite0 J3
      have test : ∀ {Q : Value → Shared → Prop} {E : Value → Shared → Prop}, Q cl { s' with heap := h3 } → wpAny (model X.prog X.w) (X.A.mark (some (.ref ad))) (eval (.Name x npos) X.env) Q E { s' with heap := h3 } := fun {Q E} q => by
        obtain ⟨hg, hdbg, hm | ⟨hm, hv, hnn⟩⟩ := hc
        · exact ld_glob (X := suite0 X ad (X.pn ++ pins)) S3 hg hm q hdbg
        · exact ld_blt (X := suite0 X ad (X.pn ++ pins)) S3 hg hm hv q hnn hdbg
      refine test (LM.here ?_)
      refine codeAny_handlers_suite_as ?_
      refine HandSPX.lands_againZ fl3 fun h4 fl4 up4 => ?_
      obtain ⟨oe4, vs4, he4, hz4, hd4⟩ := fl4.there
      have J4 : Inv X pins σ' (upd H' ad (exH ad (.ref C) d)) { s' with heap := h4 } := landed_exH J nb fl4.2.1 (by rw [hst]; exact nfr) fl4.1 ((up.trans up3).trans up4) os ag na he4 hz4 hd4
      have S4 : Inv (suite0 X ad (X.pn ++ pins)) [] σ' (upd H' ad (exH ad (.ref C) d)) { s' with heap := h4 } := toSuite0 J4
      refine store_ok (X := suite0 X ad (X.pn ++ pins)) (v := .ref ad) S4 hN hi hloc rfl (fun s5 S5 => ?_) (.inr hln)
      obtain ⟨t, h1, h2⟩ := (hsu ad (X.pn ++ pins) hN).ex
      have aS : At X (upd H' ad (exH ad (.ref C) d)) Ex (σ'.set i (some (.ref ad))) (g'.set i (some (.exc x0.c x0.fs))) T [] := At.storeAny (.ofTop aX.fit (aX.rel.caught na xa))
      have pinS : Pin np σ (σ'.set i (some (.ref ad))) := pin.trans (Pin.set hnp)
      let D' : Ends := { nx := fun σ6 H6 => D.nx (σ6.set i none) H6, rt := D.rt, bk := fun σ6 H6 => D.bk (σ6.set i none) H6, ct := fun σ6 H6 => D.ct (σ6.set i none) H6 }
      have w2 : Wp (ms (g'.set i (some (.exc x0.c x0.fs)))) (SPost (suite0 X ad (X.pn ++ pins)) np (σ'.set i (some (.ref ad))) T Ex D') (XPost (suite0 X ad (X.pn ++ pins)) (fun _ _ _ _ => False) np (σ'.set i (some (.ref ad))) T Ex) := by
        refine (Res.wp_noX.mp (Res.wp_bd.mp wX)).imp (fun fl g6 k => ?_) (fun _ _ z => z.elim)
        have k' : SPost X np σ T Ex D fl (g6.set i none) := k
        have pp : ∀ {σ6 : L2.St}, Pin np (σ'.set i (some (.ref ad))) σ6 → Pin np σ (σ6.set i none) := fun q => (pinS.trans q).trans (Pin.set hnp)
        cases fl with
        | next => exact fun σ6 H6 q a6 => k' (σ6.set i none) H6 (pp q) (At.gone (X := X) ⟨a6.fit, a6.rel⟩ i)
        | brk => exact fun σ6 H6 q a6 => k' (σ6.set i none) H6 (pp q) (At.gone (X := X) ⟨a6.fit, a6.rel⟩ i)
        | cnt => exact fun σ6 H6 q a6 => k' (σ6.set i none) H6 (pp q) (At.gone (X := X) ⟨a6.fit, a6.rel⟩ i)
        | ret o => exact fun v σ6 H6 q a6 => k' v (σ6.set i none) H6 (pp q) (At.gone (X := X) ⟨a6.fit, a6.rel⟩ i)
      refine wpAny_mono (h1.run [] s5 _ _ D' S5 (h2 _ _ D' _ T Ex ⟨aS.fit, aS.rel⟩ w2)) (fun f s6 hsp => ?_) (fun _ _ z => False.elim z)
      have end_ : ∀ {σ6 : L2.St} {H6 : Hp} {Q : Shared → Prop}, Inv (suite0 X ad (X.pn ++ pins)) [] σ6 H6 s6 → (∀ s7, Inv X pins (σ6.set i none) H6 s7 → Q s7) →
          wpAny (model X.prog X.w) X.A (do bindName X.env n .none; unbindBehindTheSuite X.env n pos') (fun _ s7 => Q s7) X.xe s6 := fun {σ6 H6 Q} S6 hq => gone_ok (ofSuite0 S6 ok) hN hi hln hq
      cases f with
      | next =>
        obtain ⟨σ6, H6, S6, q6⟩ := hsp
        exact end_ S6 fun s7 J7 => ⟨_, _, J7, q6⟩
      | brk =>
        obtain ⟨σ6, H6, S6, q6⟩ := hsp
        exact end_ S6 fun s7 J7 => ⟨_, _, J7, q6⟩
      | cont =>
        obtain ⟨σ6, H6, S6, q6⟩ := hsp
        exact end_ S6 fun s7 J7 => ⟨_, _, J7, q6⟩
      | ret u =>
        obtain ⟨v6, σ6, H6, S6, r6, q6⟩ := hsp
        exact end_ S6 fun s7 J7 => ⟨_, _, _, J7, r6, q6⟩
    · exact wX.elim
  have cc' : Cc (X.tr (X.pn ++ pins) xe') W' k := ⟨tk', cc.hr, cc.calm, cc.nd, PassesOwn.looking⟩
  obtain ⟨t, h1, h2⟩ := (hb W' (X.pn ++ pins) xe' cc').ex
  have wt : Wp (mb g) (SPost (X.tr (X.pn ++ pins) xe') np σ T Ex D) (XPost (X.tr (X.pn ++ pins) xe') W' np σ T Ex) := by
    refine wb.imp (fun fl g' k => ?_) (fun xx g' k σ' H' cls d pin a' xa => ⟨xx, g', pin, ⟨a'.fit, a'.rel⟩, xa, k⟩)
    cases fl with
    | next => exact fun σ' H' q a' => k σ' H' q ⟨a'.fit, a'.rel⟩
    | brk => exact fun σ' H' q a' => k σ' H' q ⟨a'.fit, a'.rel⟩
    | cnt => exact fun σ' H' q a' => k σ' H' q ⟨a'.fit, a'.rel⟩
    | ret o => exact fun v σ' H' q a' => k v σ' H' q ⟨a'.fit, a'.rel⟩
  refine wpAny_mono (h1.run [] s σ H D (I.toTry _) (h2 σ H D g T Ex ⟨a.fit, a.rel⟩ wt)) (fun f s1 hsp => ?_) (fun e s1 he => he)
  cases f with
  | next =>
    obtain ⟨σ', H', J', q⟩ := hsp
    exact wpAny_execs_nil ⟨σ', H', J'.ofTry ok, q⟩
  | brk =>
    obtain ⟨σ', H', J', q⟩ := hsp
    exact ⟨σ', H', J'.ofTry ok, q⟩
  | cont =>
    obtain ⟨σ', H', J', q⟩ := hsp
    exact ⟨σ', H', J'.ofTry ok, q⟩
  | ret u =>
    obtain ⟨v, σ', H', J', r, q⟩ := hsp
    exact ⟨v, σ', H', J'.ofTry ok, r, q⟩
end
end Z
namespace PySem.W
open PySem PySem.Spec PySem.Calls PyProof.Rows
section
variable {prog : Program} {w : World} {A : Around} {E : Value → Shared → Prop} {s : Shared} {K : Frag} {x D : Addr} {ox : Obj} {od : Option Obj}
theorem z_findObj_dataN {C : Addr} {name : Str} {a g : Value} (hc : (clsIn K C).isSome = true) (ha : findIn K (.ref C) name = some (some a)) (hg : specialIn K a "__get__" = some (some g)) (ht : takesIn K a = some true) : findObj K C od name = some (.bind g a) := by
  obtain ⟨cd, hc⟩ := Option.isSome_iff_exists.mp hc
  unfold findObj
  rw [hc, Option.bind_some, ha, Option.bind_some]
  simp [hg, ht]
theorem z_kin_classE {Q : Option Value → Shared → Prop} (hga : findIn K (.ref D) "__getattribute__" = some (some (.builtin "BaseException.__getattribute__"))) (hgt : findIn K (.ref D) "__getattr__" = some none) (hsub : subIn K (.ref D) (.type "BaseException") = some true)
    (hdct : hasDictIn K D = true) (ha : findIn K (.ref D) "__class__" = some (some (.builtin "object.__class__")))
    (hn : specialIn K (.builtin "object.__class__") "__get__" = some (some (.builtin "getset_descriptor.__get__"))) (htk : takesIn K (.builtin "object.__class__") = some true) (hm : mroIn K D (.type "object") = some true)
    (X : K.In s.heap) (I : InstAt s.heap x ox D od) (h : Q (some (.ref D)) { s with toks := s.toks + 1 }) : wpAny (model prog w) A (getAttr? (.ref x) "__class__") Q E s := by
  have hf : findObj K D od "__class__" = some (.bind (.builtin "getset_descriptor.__get__") (.builtin "object.__class__")) := z_findObj_dataN (by obtain ⟨cd, hc, _⟩ := any_some hdct; rw [hc]; rfl) ha hn htk
  obtain ⟨hp, g, d, t, os⟩ := s
  have L0 := I.type (M := model prog w)
  have L1 := looks_findIn (M := model prog w) X hga
  have L2 := looks_findIn (M := model prog w) X hgt
  have L3 := looks_find (M := model prog w) X I hf
  have sub : Looks (model prog w) hp (isInstance (.ref x) (.type "BaseException")) true := L0.andThen (looks_subIn X hsub)
  have hx0 : (false && onTheHeap (Value.builtin "BaseException.__getattribute__")) = false := rfl
  have hx2 : (Value.builtin "BaseException.__getattribute__" == Value.builtin "object.__getattribute__") = false := by decide +kernel
  have hx1 : (onTheHeap (Value.ref D) && Value.builtin "BaseException.__getattribute__" == Value.builtin "object.__getattribute__") = false := by rw [hx2]; rfl
  unfold getAttr? getAttrBy? getAttrBy
  refine wpAny_bind (wpAny_mkText (wpAny_bind (wpAny_attempt (wpAny_holding (wpAny_bind (L0.at (wpAny_bind (L1.at ?_))))))))
  show wpAny _ _ (if (onTheHeap (Value.ref D) && Value.builtin "BaseException.__getattribute__" == Value.builtin "object.__getattribute__") = true then _ else _) _ _ _
  rw [hx1, if_neg Bool.false_ne_true]
  unfold getAttrByItsOwn hookBefore
  refine wpAny_bind ?_
  rw [if_pos (show onTheHeap (Value.ref D) = true from rfl)]
  refine L2.at ?_
  refine wpAny_bind (wpAny_attempt (wpAny_holding ?_))
  unfold callGetattribute
  rw [hx0, if_neg Bool.false_ne_true]
  unfold boundAndCalled
  rw [PySem.F.excAttr_ValueError.ga.bind (.ref x)]
  refine wpAny_bind (wpAny_pure ?_)
  show wpAny _ _ (call (.builtin "BaseException.__getattribute__") [.ref x, .str "__class__" t]) _ _ _
  refine wpAny_call (codeAny_call_builtin PySem.F.excAttr_ValueError.ga.plain PySem.F.entry_bexc_ga ?_)
  refine @check_slot (model prog w) _ _ ⟨hp, g, d, t + 1, os⟩ "BaseException.__getattribute__" "BaseException" "__getattribute__" (.ref x) [.str "__class__" t] [] _ (by decide +kernel) (by decide +kernel) sub (PySem.F.args_bexc_ga (.ref x) (.str "__class__" t)) ?_
  unfold Builtin.«object.__getattribute__»
  refine wpAny_bind (wpAny_of_eq (a := ((Value.ref x : Value), [Value.str "__class__" t])) (by first | rfl | (simp only [slotArgs]; rfl)) ?_)
  refine wpAny_bind (wpAny_pure (wpAny_bind (L0.at (wpAny_bind (L3.at ?_)))))
  show wpAny _ _ (holding [Value.builtin "object.__class__"] (call (.builtin "getset_descriptor.__get__") [.builtin "object.__class__", .ref x, .ref D]) >>= ret) _ _ _
  refine wpAny_bind (wpAny_holding (wpAny_call (class_get (s := ⟨hp, g, d, t + 1, os⟩) (ox := ox) (od := od) X I hm ?_)))
  refine wpAny_pure ?_
  show wpAny _ _ (handedOut (.ref D)) _ _ _
  rw [handedOut_of (v := .ref D) rfl]
  first
    | exact wpAny_pure (wpAny_pure h)
    | exact wpAny_pure h
    | exact wpAny_pure (wpAny_bind (wpAny_pure (wpAny_pure h)))
theorem z_kitx_exc (hga : findIn K (.ref D) "__getattribute__" = some (some (.builtin "BaseException.__getattribute__"))) (hgt : findIn K (.ref D) "__getattr__" = some none) (hsub : subIn K (.ref D) (.type "BaseException") = some true) (hdct : hasDictIn K D = true) (ha : findIn K (.ref D) "__class__" = some (some (.builtin "object.__class__")))
    (hn : specialIn K (.builtin "object.__class__") "__get__" = some (some (.builtin "getset_descriptor.__get__"))) (htk : takesIn K (.builtin "object.__class__") = some true) (hm : mroIn K D (.type "object") = some true) :
    KitX K (.ref x) (.ref D) (fun h => ∃ ox od, InstAt h x ox D od) where
  ty := fun _ _ _ I => by obtain ⟨_, _, I⟩ := I; exact I.type
  it := fun _ _ X _ => by
    obtain ⟨cdD, hcD, _⟩ := any_some hdct
    unfold clsIn at hcD
    split at hcD
    · rename_i c' d' cd' sl' ho
      intro A' Q' E' s' k q
      unfold isType loadHead
      exact wpAny_bind (wpAny_loadPart (k _ _ (X _ _ ho)) (wpAny_pure q))
    · cases hcD
  ne := fun h tp dd its n sl X htp => by
    obtain ⟨cdD, hcD, _⟩ := any_some hdct
    refine Bool.eq_false_iff.mpr fun q => ?_
    have e : D = tp := Value.ref.inj (beq_iff_eq.mp q)
    subst e
    unfold clsIn at hcD
    split at hcD
    · rename_i c' d' cd' sl' ho
      have z := (X _ _ ho).symm.trans htp
      cases z
    · cases hcD
  ca := fun X I k => by obtain ⟨_, _, I⟩ := I; exact z_kin_classE hga hgt hsub hdct ha hn htk hm X I k
end
end PySem.W
namespace Z
open PySem PySem.Spec PyProof.Rows L2
/-- a tracked exception stands there -/
theorem exH_inst {P : Program} {w : World} {H : Hp} {h : Heap} {a C : Addr} {d : Option Addr} {K : PySem.W.Frag} {fs : List (Str × PyData)} (hok : HOk P w H h) (e : H a = some (exH a (.ref C) d)) : ∃ oe vs, h.get? a = some oe ∧ Zc (.ref C) d oe ∧ oe.data = .fields vs := by
  have x : ObjOk P w H h a (.ext fun h => ∃ (oe : Obj) (vs : Array Value), h.get? a = some oe ∧ Zc (.ref C) d oe ∧ oe.data = .fields vs) := hok a _ e
  exact x.1
end Z
namespace Z
open PySem PySem.Spec PyProof.Rows L2
/-- the dict of a tracked exception stands, too -/
def XdT (H : Hp) (d : Option Addr) : Prop := d = none ∨ ∃ dd fvs, d = some dd ∧ H dd = some (.xd fvs)
theorem exH_instAt {P : Program} {w : World} {H : Hp} {h : Heap} {a C : Addr} {d : Option Addr} (hok : HOk P w H h) (e : H a = some (exH a (.ref C) d)) (hd : XdT H d) : ∃ ox od, PySem.W.InstAt h a ox C od := by
  obtain ⟨oe, vs, ho, hz, hv⟩ := exH_inst (K := []) (fs := []) hok e
  rcases hd with rfl | ⟨dd, fvs, rfl, hx⟩
  · exact ⟨oe, none, ho, hz.1, by unfold PySem.W.notCls; rw [hv], by rw [hz.2]; trivial⟩
  · have hx' : ObjOk P w H h dd (.xd fvs) := hok dd _ hx
    obtain ⟨mA, hns, hr⟩ := hx'
    obtain ⟨od, hod, hl⟩ := lookIn_ns hns
    exact ⟨oe, some od, ho, hz.1, by unfold PySem.W.notCls; rw [hv], by rw [hz.2]; exact hod⟩
/-- isinstance of a tracked exception, one class; a tuple of classes -/
def rIsX (K : PySem.W.Frag) : List V → Hp → VK → Prop := fun xs H Q => ∃ (a C : Addr) (d : Option Addr) (c : V) (u : Value) (b : Bool), xs = [.ref a, c] ∧ ClsV c u ∧ H a = some (exH a (.ref C) d) ∧ XdT H d ∧ ExcC K C ∧ PySem.W.kitOne K (.ref C) u = some b ∧ Q (.bl b) H
def rIsXT (K : PySem.W.Frag) : List V → Hp → VK → Prop := fun xs H Q => ∃ (a C tp : Addr) (d : Option Addr) (cs : List V) (us : List Value) (b : Bool), xs = [.ref a, .ref tp] ∧ H tp = some (.tup cs) ∧ Paired ClsV cs us ∧ H a = some (exH a (.ref C) d) ∧ XdT H d ∧ ExcC K C ∧ PySem.W.kitAny K (.ref C) us = some b ∧ Q (.bl b) H
section
variable {X : Cx}
theorem call_isX : CallR X (.builtin "isinstance") (rIsX X.K) := by
  intro pins s σ H xs us Q I r h
  obtain ⟨a, C, d, c, u, b, rfl, k, e, hd, T, hk, q⟩ := h
  cases r with
  | cons r1 rr =>
    cases rr with
    | cons r2 rr =>
      cases rr
      cases r1
      have e2 := k.eq r2
      subst e2
      exact PySem.W.kia_one (PySem.W.z_kitx_exc T.hg T.hk T.hs T.hd T.ha T.hn T.ht T.hm) I.kIn (exH_instAt I.hok e hd) hk (fun z => nomatch z) fun tk => ⟨.bl b, H, I.tok tk, rfl, q⟩
theorem call_isXT : CallR X (.builtin "isinstance") (rIsXT X.K) := by
  intro pins s σ H xs us Q I r h
  obtain ⟨a, C, tp, d, cs, ws, b, rfl, et, k, e, hd, T, hk, q⟩ := h
  cases r with
  | cons r1 rr =>
    cases rr with
    | cons r2 rr =>
      cases rr
      cases r1
      cases r2
      obtain ⟨_, its, rv, o, h1, h2, n, h3⟩ := (show ObjOk X.prog X.w H s.heap tp (.tup cs) from I.hok tp _ et)
      have e3 := ClsV.all k rv
      subst e3
      obtain ⟨oc, od, oda, osl⟩ := o
      dsimp only at h2 h3
      subst h2 h3
      exact PySem.W.kia_tup (PySem.W.z_kitx_exc T.hg T.hk T.hs T.hd T.ha T.hn T.ht T.hm) I.kIn (exH_instAt I.hok e hd) h1 hk (fun z => nomatch z) fun tk => ⟨.bl b, H, I.tok tk, rfl, q⟩
end
/-- of which class one is, by the classes that may come -/
def isxM (ans : List (Str × Bool)) (m : M O) : M O := M.bd m fun o g => match o with
  | .exc c _ => match ans.lookup c with
    | some b => .ok (.d (.bool b)) g
    | none => .bad
  | _ => .bad
theorem wpIsx {ans : List (Str × Bool)} {o : O} {g : Gs} {A : O → Gs → Prop} {B : Exn → Gs → Prop} (h : Wp ((fun o g => match o with
  | O.exc c _ => match ans.lookup c with
    | some b => .ok (.d (.bool b)) g
    | none => .bad
  | _ => .bad : O → M O) o g) A B) : ∃ c fs b, o = .exc c fs ∧ ans.lookup c = some b ∧ A (.d (.bool b)) g := by
  cases o with
  | exc c fs =>
    dsimp only at h
    split at h
    · rename_i b q; exact ⟨c, fs, b, rfl, q, h⟩
    · exact h.elim
  | _ => exact h.elim
theorem lookup_mem {β : Type} {c : Str} {b : β} : ∀ {l : List (Str × β)}, l.lookup c = some b → (c, b) ∈ l
  | [], h => by cases h
  | (x, y) :: r, h => by
    rw [List.lookup_cons] at h
    split at h
    · rename_i q
      cases h
      have e : c = x := by simpa using q
      rw [e]; exact List.mem_cons_self
    · exact List.mem_cons_of_mem _ (lookup_mem h)
/-- what is seen of an exception -/
theorem Rel.exc {K : PySem.W.Frag} {mg : Str → Option Value} {H : Hp} {Ex : List (Addr × HO)} {rs ws : Roots} {v : V} {c : Str} {fs : List (Str × PyData)} (r : Rel K mg H Ex rs ((v, .exc c fs) :: ws)) :
    ∃ a C d, v = .ref a ∧ H a = some (exH a (.ref C) d) ∧ mg c = some (.ref C) ∧ XdT H d ∧ ∀ n x, fs.lookup n = some x → ∃ dd fvs v, d = some dd ∧ H dd = some (.xd fvs) ∧ fvs.lookup n = some v ∧ Rel K mg H Ex ((v, .d x) :: rs) ws := by
  obtain ⟨Hf, as, s, he, ho, nd, hn, hw⟩ := r.ex
  obtain ⟨bs, h⟩ := hw _ List.mem_cons_self
  cases h with
  | @exc H' a C c d fs h hm hx =>
    refine ⟨a, C, d, rfl, s.same _ _ h, hm, ?_, fun n x hl => ?_⟩
    · rcases hx with ⟨_, e⟩ | ⟨dd, fvs, e, h2, _, _⟩
      · exact .inl e
      · exact .inr ⟨dd, fvs, e, s.same _ _ h2⟩
    · rcases hx with ⟨e, _⟩ | ⟨dd, fvs, e, h2, h3, h4⟩
      · rw [e] at hl; cases hl
      · have key : ∀ {fvs : List (Str × V)} {fs : List (Str × PyData)}, fvs.map (·.1) = fs.map (·.1) → DpAll K Hf.h (fvs.map (·.2)) (fs.map (·.2)) → fs.lookup n = some x → ∃ v, fvs.lookup n = some v ∧ Dp K Hf.h v x := by
          intro fvs
          induction fvs with
          | nil => intro fs e1 e2 e3; cases fs with | nil => cases e3 | cons _ _ => cases e1
          | cons p l ih =>
            intro fs e1 e2 e3
            cases fs with
            | nil => cases e1
            | cons q r =>
              simp only [List.map_cons, List.cons.injEq] at e1
              obtain ⟨e1, e1'⟩ := e1
              cases e2 with
              | cons d1 d2 =>
                obtain ⟨p1, p2⟩ := p
                obtain ⟨q1, q2⟩ := q
                simp only at e1
                subst e1
                rw [List.lookup_cons] at e3 ⊢
                split at e3
                · cases e3; exact ⟨_, rfl, d1⟩
                · exact ih e1' d2 e3
        obtain ⟨v, l1, l2⟩ := key h3 h4 hl
        exact ⟨dd, fvs, v, e, s.same _ _ h2, l1, Hf, as, s, he, .cons (as := []) (.d l2) ho, nd, hn, fun p m => hw p (List.mem_cons_of_mem _ m)⟩
section
variable {X : Cx} {W : WX} {pu : Bool} {a : Expr} {m : M O} {pos p p2 p3 : Pos} {ans : List (Str × Bool)}
theorem ev_isx {n : Str} {cv : V} {u : Value} (hP : EvP X W pu a m) (hm : X.mg "isinstance" = none) (hv : bootBuiltins "isinstance" = some (.builtin "isinstance")) (pt : PE X (.Name n p2) (tC cv)) (k : ClsV cv u)
    (hk : ∀ c b, (c, b) ∈ ans → ∀ C, X.mg c = some (.ref C) → ExcC X.K C ∧ PySem.W.kitOne X.K (.ref C) u = some b) (hg : Gl X "isinstance" := by rfl)
    (he : starEach [a, .Name n p2] X.env = (false, eval a X.env) :: starEach [.Name n p2] X.env := by rfl) (he2 : starEach [.Name n p2] X.env = (false, eval (.Name n p2) X.env) :: starEach [] X.env := by rfl) (hpl : (backTo pos (starEach [.Name n p2] X.env)).any (·.1) = false := by rfl) :
    Ev X W pu (.Call (.Name "isinstance" p) [a, .Name n p2] [] pos) (isxM ans m) := by
  obtain ⟨t, h1, h2⟩ := hP.ex
  refine ⟨_, pe_callB call_isX hg hm hv (pa_cons h1 (pa_cons pt pa_nil he2) he) (by decide) (by decide) he hpl, fun σ H Q g T Ex ws a w => h2 σ H _ g T Ex ws a (w.bd.imp (fun o g' kk v H' s a' => ?_) fun _ _ kk => kk)⟩
  obtain ⟨c, fs, b, rfl, hl, kk⟩ := wpIsx kk
  obtain ⟨ad, C, d, rfl, e1, e2, e3, _⟩ := a'.rel.exc
  obtain ⟨T, hK⟩ := hk c b (lookup_mem hl) C e2
  refine ⟨ad, C, d, cv, u, b, rfl, k, e1, e3, T, hK, ?_⟩
  exact kk _ H' s ((a'.data fun _ => .bl _).views fun p m => List.mem_cons_of_mem _ m)
/-- names of classes, in a row -/
inductive PCs (X : Cx) : List Expr → List V → List Value → Prop
  | nil : PCs X [] [] []
  | cons {n : Str} {p : Pos} {es : List Expr} {c : V} {u : Value} {cs : List V} {us : List Value} : PE X (.Name n p) (tC c) → ClsV c u → (starEach (.Name n p :: es) X.env = (false, eval (.Name n p) X.env) :: starEach es X.env) → PCs X es cs us → PCs X (.Name n p :: es) (c :: cs) (u :: us)
def tCs : List V → TA
  | [] => tNil
  | c :: cs => tCons (tC c) (tCs cs)
theorem PCs.pa {X : Cx} : ∀ {es : List Expr} {cs : List V} {us : List Value}, PCs X es cs us → PA X es (tCs cs)
  | _, _, _, .nil => pa_nil
  | _, _, _, .cons h _ s t => pa_cons h t.pa s
theorem PCs.all {X : Cx} : ∀ {es : List Expr} {cs : List V} {us : List Value}, PCs X es cs us → Paired ClsV cs us
  | _, _, _, .nil => .nil
  | _, _, _, .cons _ k _ t => .cons k t.all
theorem tCs_run {σ : L2.St} {H : Hp} {Q : List V → Hp → Prop} : ∀ {cs : List V}, Q cs H → tCs cs σ H Q
  | [], h => h
  | c :: cs, h => by
    show tCs cs σ H fun vs H2 => Q (c :: vs) H2
    exact tCs_run (Q := fun vs H2 => Q (c :: vs) H2) h
theorem ev_isxT {es : List Expr} {x1 : Nat} {cs : List V} {us : List Value} (hP : EvP X W pu a m) (hm : X.mg "isinstance" = none) (hv : bootBuiltins "isinstance" = some (.builtin "isinstance")) (pt : PCs X es cs us) (hlen : cs.length ≤ 16)
    (hk : ∀ c b, (c, b) ∈ ans → ∀ C, X.mg c = some (.ref C) → ExcC X.K C ∧ PySem.W.kitAny X.K (.ref C) us = some b) (hg : Gl X "isinstance" := by rfl)
    (he : starEach [a, .Tuple es x1 p2] X.env = (false, eval a X.env) :: starEach [.Tuple es x1 p2] X.env := by rfl) (he2 : starEach [.Tuple es x1 p2] X.env = (false, eval (.Tuple es x1 p2) X.env) :: starEach [] X.env := by rfl) (hpl : (backTo pos (starEach [.Tuple es x1 p2] X.env)).any (·.1) = false := by rfl) :
    Ev X W pu (.Call (.Name "isinstance" p) [a, .Tuple es x1 p2] [] pos) (isxM ans m) := by
  obtain ⟨t, h1, h2⟩ := hP.ex
  refine ⟨_, pe_callB call_isXT hg hm hv (pa_cons h1 (pa_cons (pe_tup pt.pa) pa_nil he2) he) (by decide) (by decide) he hpl, fun σ H Q g T Ex ws a w => h2 σ H _ g T Ex ws a (w.bd.imp (fun o g' kk v H' s a' => ?_) fun _ _ kk => kk)⟩
  obtain ⟨c, fs, b, rfl, hl, kk⟩ := wpIsx kk
  refine tCs_run ⟨by rw [sizeLine_eq]; omega, fun tp htp => ?_⟩
  have sm : Same H' (upd H' tp (.tup cs)) := sameUpd htp
  have a2 := a'.same sm
  obtain ⟨ad, C, d, rfl, e1, e2, e3, _⟩ := a2.rel.exc
  obtain ⟨T, hK⟩ := hk c b (lookup_mem hl) C e2
  refine ⟨ad, C, tp, d, cs, us, b, rfl, upd_same, pt.all, e1, e3, T, hK, ?_⟩
  exact kk _ _ (fun z => ⟨(s z).1, (s z).2.trans sm⟩) ((a2.data fun _ => .bl _).views fun p m => List.mem_cons_of_mem _ m)
def tXfL (K : PySem.W.Frag) (f : Str) (te : TE) : TE := fun σ H Q => te σ H fun x H1 => ∃ (a C dd : Addr) (fvs : List (Str × V)) (v : V), x = .ref a ∧ H1 a = some (exH a (.ref C) (some dd)) ∧ H1 dd = some (.xd fvs) ∧ XfC K C ∧ PySem.W.findIn K (.ref C) f = some none ∧ fvs.lookup f = some v ∧ Q v H1
theorem pe_xfL {e : Expr} {te : TE} {n : Str} (he : PE X e te) (hb : attributeBase e n X.env (eval e X.env) = eval e X.env := by rfl) : PE X (.Attribute e n pos) (tXfL X.K n te) := by
  refine ⟨fun pins s σ H Q I h => ?_⟩
  refine attr_of hb (thn (he.run pins s σ H _ I h) fun u s1 hh => ?_)
  obtain ⟨x, H1, I1, rx, a, C, dd, fs, v, ex, ea, ed, T, hno, l, q⟩ := hh
  subst ex
  obtain rfl : u = Value.ref a := rx
  obtain ⟨oe, vs, ha, hz, hd⟩ := exH_inst (K := []) (fs := []) I1.hok ea
  have hx : ObjOk X.prog X.w H1 s1.heap dd (.xd fs) := I1.hok dd _ ed
  obtain ⟨mA, hns, hr⟩ := hx
  obtain ⟨od, ho, hl⟩ := lookIn_ns hns
  obtain ⟨u, hu, ru⟩ := RelO.some_of (v := v) (o := mA n) (by rw [← l]; exact hr n)
  have J : PySem.W.InstAt s1.heap a oe C (some od) := ⟨ha, hz.1, by unfold PySem.W.notCls; rw [hd], by rw [hz.2]; exact ho⟩
  exact HandSPX.exc_get I1.kIn J T.ga T.gg T.exC (PySem.W.findObj_own T.hdC hno rfl (by rw [hl, hu])) (handed_of ru) ⟨v, H1, I1.tok _, ru, q⟩
def xfM (cs : List Str) (f : Str) (m : M O) : M O := M.bd m fun o g => match o with
  | .exc c fs => if c ∈ cs then match fs.lookup f with
    | some x => .ok (.d x) g
    | none => .bad else .bad
  | _ => .bad
theorem wpXf {cs : List Str} {f : Str} {o : O} {g : Gs} {A : O → Gs → Prop} {B : Exn → Gs → Prop} (h : Wp ((fun o g => match o with
  | O.exc c fs => if c ∈ cs then match fs.lookup f with
    | some x => .ok (.d x) g
    | none => .bad else .bad
  | _ => .bad : O → M O) o g) A B) : ∃ c fs x, o = .exc c fs ∧ c ∈ cs ∧ fs.lookup f = some x ∧ A (.d x) g := by
  cases o with
  | exc c fs =>
    dsimp only at h
    split at h
    · rename_i hc
      split at h
      · rename_i x q; exact ⟨c, fs, x, rfl, hc, q, h⟩
      · exact h.elim
    · exact h.elim
  | _ => exact h.elim
theorem ev_xf {n : Str} {cs : List Str} (hP : EvP X W pu a m) (hk : ∀ c ∈ cs, ∀ C, X.mg c = some (.ref C) → XfC X.K C ∧ PySem.W.findIn X.K (.ref C) n = some none)
    (hb : attributeBase a n X.env (eval a X.env) = eval a X.env := by rfl) : Ev X W pu (.Attribute a n pos) (xfM cs n m) := by
  obtain ⟨t, h1, h2⟩ := hP.ex
  refine ⟨_, pe_xfL h1 hb, fun σ H Q g T Ex ws a w => h2 σ H _ g T Ex ws a (w.bd.imp (fun o g' kk v H' s a' => ?_) fun _ _ kk => kk)⟩
  obtain ⟨c, fs, x, rfl, hc, hl, kk⟩ := wpXf kk
  obtain ⟨ad, C, d, rfl, e1, e2, _, e4⟩ := a'.rel.exc
  obtain ⟨dd, fvs, v, rfl, f1, f2, rr⟩ := e4 n x hl
  obtain ⟨T, hno⟩ := hk c hc C e2
  refine ⟨ad, C, dd, fvs, v, rfl, e1, f1, T, hno, f2, ?_⟩
  exact kk v H' s (.ofTop a'.fit rr)
def isBF (neg : Bool) : List O → Option O
  | [.d (.bool a), .d (.bool b)] => some (.d (.bool (if neg then !decide (a = b) else decide (a = b))))
  | _ => none
end
theorem isB_of {X : Cx} {H : Hp} {Ex : List (Addr × HO)} {rs ws : Roots} {neg : Bool} {xs : List V} {os : List O} {z : O} (hl : xs.length = os.length) (r : Rel X.K X.mg H Ex rs (xs.zip os ++ ws)) (hf : isBF neg os = some z) : ∃ a b, xs = [.bl a, .bl b] ∧ z = .d (.bool (if neg then !decide (a = b) else decide (a = b))) := by
  unfold isBF at hf
  split at hf
  · rename_i a b
    cases hf
    obtain ⟨x, y, rfl⟩ := two hl
    obtain ⟨Hf, s, hw, cl⟩ := r.fr
    obtain ⟨_, h1⟩ := hw _ zipHead
    obtain ⟨_, h2⟩ := hw _ zipSnd
    cases h1 with
    | d h1 => cases h2 with
      | d h2 => cases h1; cases h2; exact ⟨a, b, rfl, rfl⟩
  · cases hf
theorem pr_isB {X : Cx} : PR X (r2L fun x y H Q => ∃ a b, x = .bl a ∧ y = .bl b ∧ Q (V.bl (decide (a = b))) H) (isBF false) := by
  intro xs os H Ex rs ws Q o hl r hf k
  obtain ⟨a, b, rfl, rfl⟩ := isB_of hl r hf
  exact ⟨a, b, rfl, rfl, k _ _ (Same.refl _) (r.data fun _ => .bl _)⟩
end Z
namespace Z
open PySem PySem.Spec PyProof.Rows L2
section
variable {K : PySem.W.Frag} {mg : Str → Option Value} {h : Heap}
/-- the class that is over all -/
structure XBase (K : PySem.W.Frag) (mg : Str → Option Value) (x : Str) : Prop where
  ex : ∃ (CB : Addr) (mc : Value), mg x = some (.ref CB) ∧ ClX.CRead K CB mc ∧ PySem.W.findCls K (.ref CB) mc "__init__" = some (.val (.builtin "ValueError.__init__"))
theorem xbAt {x : Str} {C : Addr} {mc : Value} (X : K.In h) (G : h.Ns mainGlobals mg) (a : PySem.W.nsIn K mainGlobals x = some (some (.ref C))) (r : PySem.W.readsIn K C mc = true) (g : PySem.W.specialIn K (.ref C) "__getattribute__" = some (some (.builtin "type.__getattribute__")))
    (f : PySem.W.findCls K (.ref C) mc "__init__" = some (.val (.builtin "ValueError.__init__"))) : XBase K mg x := ⟨C, mc, PySem.W.mg_of X G a, ⟨r, g⟩, f⟩
/-- a class made with one thing -/
structure XMakAt (K : PySem.W.Frag) (mg : Str → Option Value) (c q fn : Str) (st : Stmt) : Prop where
  ex : ∃ (C f : Addr) (fd : FuncData), mg c = some (.ref C) ∧ OexC K C ∧ PySem.W.findIn K (.ref C) "__init__" = some (some (.ref f)) ∧ PySem.W.typeIn K (.ref f) = some (.type "function") ∧ PySem.W.findIn K (.ref C) fn = some none ∧ Fun K "__init__" q st f fd
theorem xmakAt {c q fn : Str} {C f : Addr} {st : Stmt} {oc : Value} {od an : Option Addr} {osl : Array (Option Value)} {kV doc pm cdv ct : Value} {nm qn : Str} {N : Addr} {bs bm : List Value} {sn : List Str} {sub : List Value} {ab : Bool} {col : Option Bool} {dd : Option Addr} {k0 k1 k2 k3 k5 : Option Value}
    (X : K.In h) (G : h.Ns mainGlobals mg) (a : PySem.W.nsIn K mainGlobals c = some (some (.ref C))) (lc : K.lookup C = some (excClassObj nm qn C N bs bm true sn sub ab col dd k0 k1 k2 k3 k5 "ValueError.__new__")) (rv : PySem.HandSPX.refsVE bm = true)
    (sa : PySem.W.findIn K (.ref C) "__setattr__" = some (some (.builtin "object.__setattr__"))) (sb : PySem.W.subIn K (.ref C) (.type "BaseException") = some true) (ty : PySem.W.typeIn K (.ref C) = some (.type "type")) (kc : PySem.W.keepIn K (.ref C) = true)
    (i : PySem.W.findIn K (.ref C) "__init__" = some (some (.ref f))) (tf : PySem.W.typeIn K (.ref f) = some (.type "function")) (n : PySem.W.findIn K (.ref C) fn = some none)
    (l : K.lookup f = some ⟨oc, od, .func (PySem.W.fnOf "__init__" q (defArgs st) (defBody st) (defScope st) .none kV doc pm an cdv ct), osl⟩) (cd : PySem.W.codeIn K cdv q = true) (k : PySem.W.keepIn K (.ref f) = true) : XMakAt K mg c q fn st :=
  ⟨C, f, _, PySem.W.mg_of X G a, ⟨⟨_, _, _, _, _, _, _, _, _, _, _, _, _, _, _, lc, rv⟩, sa, sb, ty, kc⟩, i, tf, n, fun_mk l cd k⟩
/-- the handler of a class takes these -/
structure Hnd (K : PySem.W.Frag) (mg : Str → Option Value) (x : Str) (hs : List Str) : Prop where
  ex : ∃ D, mg x = some (.ref D) ∧ ∀ c ∈ hs, ∀ C, mg c = some (.ref C) → PySem.W.exmOne K (.ref C) (.ref D) = some true
theorem hndNil {x : Str} {D : Addr} (X : K.In h) (G : h.Ns mainGlobals mg) (a : PySem.W.nsIn K mainGlobals x = some (some (.ref D))) : mg x = some (.ref D) ∧ ∀ c ∈ ([] : List Str), ∀ C, mg c = some (.ref C) → PySem.W.exmOne K (.ref C) (.ref D) = some true := ⟨PySem.W.mg_of X G a, fun _ h => nomatch h⟩
theorem hndCons {x c : Str} {hs : List Str} {C D : Addr} (X : K.In h) (G : h.Ns mainGlobals mg) (a : PySem.W.nsIn K mainGlobals c = some (some (.ref C))) (e : PySem.W.exmOne K (.ref C) (.ref D) = some true) (r : mg x = some (.ref D) ∧ ∀ c ∈ hs, ∀ C, mg c = some (.ref C) → PySem.W.exmOne K (.ref C) (.ref D) = some true) :
    mg x = some (.ref D) ∧ ∀ c' ∈ c :: hs, ∀ C, mg c' = some (.ref C) → PySem.W.exmOne K (.ref C) (.ref D) = some true := ⟨r.1, fun c' m C' hC => by
  rcases List.mem_cons.mp m with q | m
  · subst q
    have := (PySem.W.mg_of X G a).symm.trans hC
    cases this
    exact e
  · exact r.2 c' m C' hC⟩
theorem hndOf {x : Str} {hs : List Str} {D : Addr} (r : mg x = some (.ref D) ∧ ∀ c ∈ hs, ∀ C, mg c = some (.ref C) → PySem.W.exmOne K (.ref C) (.ref D) = some true) : Hnd K mg x hs := ⟨D, r⟩
/-- what isinstance says of instances of these classes; us: the class or the classes asked for -/
def IsAll (K : PySem.W.Frag) (mg : Str → Option Value) (us : List Value) (ans : List (Str × Bool)) : Prop := ∀ c b, (c, b) ∈ ans → ∀ C, mg c = some (.ref C) → ExcC K C ∧ PySem.W.kitAny K (.ref C) us = some b
theorem isNil {us : List Value} : IsAll K mg us [] := fun _ _ h => nomatch h
theorem isCons {c : Str} {b : Bool} {ans : List (Str × Bool)} {us : List Value} {C : Addr} (X : K.In h) (G : h.Ns mainGlobals mg) (a : PySem.W.nsIn K mainGlobals c = some (some (.ref C))) (T : ExcC K C) (e : PySem.W.kitAny K (.ref C) us = some b) (r : IsAll K mg us ans) : IsAll K mg us ((c, b) :: ans) := fun c' b' m C' hC => by
  rcases List.mem_cons.mp m with q | m
  · cases q
    have := (PySem.W.mg_of X G a).symm.trans hC
    cases this
    exact ⟨T, e⟩
  · exact r c' b' m C' hC
theorem kitOne_of {t u : Value} {b : Bool} (h : PySem.W.kitAny K t [u] = some b) : PySem.W.kitOne K t u = some b := by
  unfold PySem.W.kitAny at h
  split at h
  · rename_i q; cases h; exact q
  · rename_i q; rw [q]; cases h; rfl
  · cases h
/-- classes by their names -/
inductive ClsNs (mg : Str → Option Value) : List Str → List Value → Prop
  | nil : ClsNs mg [] []
  | own {n : Str} {D : Addr} {ns : List Str} {us : List Value} : mg n = some (.ref D) → ClsNs mg ns us → ClsNs mg (n :: ns) (.ref D :: us)
  | ty {n : Str} {nt : String} {ns : List Str} {us : List Value} : mg n = none → bootBuiltins n = some (.type nt) → ClsNs mg ns us → ClsNs mg (n :: ns) (.type nt :: us)
structure Isx (K : PySem.W.Frag) (mg : Str → Option Value) (ns : List Str) (ans : List (Str × Bool)) : Prop where
  ex : ∃ us, ClsNs mg ns us ∧ IsAll K mg us ans
structure Xfs (K : PySem.W.Frag) (mg : Str → Option Value) (f : Str) (cs : List Str) : Prop where
  ex : ∀ c ∈ cs, ∀ C, mg c = some (.ref C) → XfC K C ∧ PySem.W.findIn K (.ref C) f = some none
theorem xfsNil {f : Str} : Xfs K mg f [] := ⟨fun _ h => nomatch h⟩
theorem xfsCons {f c : Str} {cs : List Str} {C : Addr} (X : K.In h) (G : h.Ns mainGlobals mg) (a : PySem.W.nsIn K mainGlobals c = some (some (.ref C))) (T : XfC K C) (n : PySem.W.findIn K (.ref C) f = some none) (r : Xfs K mg f cs) : Xfs K mg f (c :: cs) := ⟨fun c' m C' hC => by
  rcases List.mem_cons.mp m with q | m
  · subst q
    have := (PySem.W.mg_of X G a).symm.trans hC
    cases this
    exact ⟨T, n⟩
  · exact r.ex c' m C' hC⟩
end
section
variable {X : Cx} {W : WX} {pu : Bool} {a : Expr} {m : M O} {pos p p2 : Pos} {ans : List (Str × Bool)} {k np : Nat} {mb ms : M Fl}
theorem ev_isx1 {n : Str} (hP : EvP X W pu a m) (hm : X.mg "isinstance" = none) (I : Isx X.K X.mg [n] ans) (hgn : Gl X n := by rfl) (hnn : n ≠ "__name__" := by decide) (hnd : (n == ("__debug__" : Str)) = false := by decide) (hg : Gl X "isinstance" := by rfl)
    (he : starEach [a, .Name n p2] X.env = (false, eval a X.env) :: starEach [.Name n p2] X.env := by rfl) (he2 : starEach [.Name n p2] X.env = (false, eval (.Name n p2) X.env) :: starEach [] X.env := by rfl) (hpl : (backTo pos (starEach [.Name n p2] X.env)).any (·.1) = false := by rfl) :
    Ev X W pu (.Call (.Name "isinstance" p) [a, .Name n p2] [] pos) (isxM ans m) := by
  obtain ⟨us, h1, h2⟩ := I.ex
  cases h1 with
  | own hD r =>
    cases r
    exact ev_isx hP hm boot_isi_ (pe_glob hgn hD (v := .ref _) rfl hnd) (.own _) (fun c b m C hC => ⟨(h2 c b m C hC).1, kitOne_of (h2 c b m C hC).2⟩) hg he he2 hpl
  | ty h0 hb r =>
    cases r
    exact ev_isx hP hm boot_isi_ (pe_bltn (v := .ty _) hgn h0 hb rfl hnn hnd) (.ty _) (fun c b m C hC => ⟨(h2 c b m C hC).1, kitOne_of (h2 c b m C hC).2⟩) hg he he2 hpl
/-- names, each known to be no local -/
inductive GlNs (X : Cx) : List Expr → List Str → Prop
  | nil : GlNs X [] []
  | cons {n : Str} {p : Pos} {es : List Expr} {ns : List Str} : Gl X n → n ≠ "__name__" → (n == ("__debug__" : Str)) = false → (starEach (.Name n p :: es) X.env = (false, eval (.Name n p) X.env) :: starEach es X.env) → GlNs X es ns → GlNs X (.Name n p :: es) (n :: ns)
theorem pcsOf : ∀ {es : List Expr} {ns : List Str} {us : List Value}, GlNs X es ns → ClsNs X.mg ns us → ∃ cs, PCs X es cs us ∧ cs.length = es.length
  | _, _, _, .nil, .nil => ⟨[], .nil, rfl⟩
  | _, _, _, .cons hg hn hd hs r, .own hm t => by
    obtain ⟨cs, h, hl⟩ := pcsOf r t
    exact ⟨_, .cons (pe_glob hg hm (v := .ref _) rfl hd) (.own _) hs h, by simp [hl]⟩
  | _, _, _, .cons hg hn hd hs r, .ty h0 hb t => by
    obtain ⟨cs, h, hl⟩ := pcsOf r t
    exact ⟨_, .cons (pe_bltn (v := .ty _) hg h0 hb rfl hn hd) (.ty _) hs h, by simp [hl]⟩
theorem ev_isxN {es : List Expr} {x1 : Nat} {ns : List Str} (hP : EvP X W pu a m) (hm : X.mg "isinstance" = none) (I : Isx X.K X.mg ns ans) (gn : GlNs X es ns) (hlen : es.length ≤ 16 := by decide) (hg : Gl X "isinstance" := by rfl)
    (he : starEach [a, .Tuple es x1 p2] X.env = (false, eval a X.env) :: starEach [.Tuple es x1 p2] X.env := by rfl) (he2 : starEach [.Tuple es x1 p2] X.env = (false, eval (.Tuple es x1 p2) X.env) :: starEach [] X.env := by rfl) (hpl : (backTo pos (starEach [.Tuple es x1 p2] X.env)).any (·.1) = false := by rfl) :
    Ev X W pu (.Call (.Name "isinstance" p) [a, .Tuple es x1 p2] [] pos) (isxM ans m) := by
  obtain ⟨us, h1, h2⟩ := I.ex
  obtain ⟨cs, h3, h4⟩ := pcsOf gn h1
  exact ev_isxT hP hm boot_isi_ h3 (by omega) h2 hg he he2 hpl
theorem ev_xfs {n : Str} {cs : List Str} (hP : EvP X W pu a m) (hk : Xfs X.K X.mg n cs) (hb : attributeBase a n X.env (eval a X.env) = eval a X.env := by rfl) : Ev X W pu (.Attribute a n pos) (xfM cs n m) := ev_xf hP hk.ex hb
/-- what a suite stands on -/
structure Csu (X : Cx) : Prop where
  nd : X.N.Nodup
theorem es_tryH {x n : Str} {body suite : List Stmt} {b₀ : Stmt} {npos pos' : Pos} {hs : List Str} (i : Nat) (cc : Cc X W k) (hnp : np ≤ i) (H : Hnd X.K X.mg x hs)
    (hb : ∀ (W' : WX) (pn : List (Addr × Obj)) (xe : Value → Shared → Prop), Cc (X.tr pn xe) W' k → EvSs (X.tr pn xe) W' np body mb)
    (hsu : ∀ (a : Addr) (pn : List (Addr × Obj)), Csu (suite0 X a pn) → EvSs (suite0 X a pn) (fun _ _ _ _ => False) np (b₀ :: suite) ms)
    (hg : Gl X x := by rfl) (hdb : (x == ("__debug__" : Str)) = false := by decide)
    (hst : X.stack = X.env :: X.outer := by rfl) (hf : X.env.frame = some X.env.locals := by rfl) (hi : X.N[i]? = some n := by rfl) (hln : X.env.kindOf n = some .local := by rfl) :
    EvS X W np (.Try body [.ExceptHandler (some (.Name x npos)) (some n) (b₀ :: suite) pos'] [] [] pos) (tryM hs i mb ms) := by
  obtain ⟨D, h1, h2⟩ := H.ex
  exact es_tryAs i cc hnp ⟨hg, hdb, .inl h1⟩ h2 hb (fun a pn nd => hsu a pn ⟨nd⟩) hst hf hi hln
end
end Z
namespace PySem
open PySem.Spec
end PySem
namespace L2
open PySem PySem.Spec PyProof.Rows
end L2
namespace Z
open PySem PySem.Spec PyProof.Rows L2
def maxL : List Int → Int
  | [] => 0
  | x :: r => r.foldl max x
def minL : List Int → Int
  | [] => 0
  | x :: r => r.foldl min x
def mxF : List O → Option O
  | [a] => match (match asLT a with | some ds => intsOf ds | none => none) with | some ns => if 0 < ns.length then some (.d (.int (maxL ns))) else none | none => none
  | _ => none
def mnF : List O → Option O
  | [a] => match (match asLT a with | some ds => intsOf ds | none => none) with | some ns => if 0 < ns.length then some (.d (.int (minL ns))) else none | none => none
  | _ => none
section
variable {AO : O → Prop} {o : O} {ds : List PyData} {is : List Int}
instance o_mx [l : LtC o ds] [q : ItsC ds is] : Stp (optW (mxF [o]) AO) (Sd (0 < is.length) (AO (.d (.int (maxL is))))) := ⟨fun h => by
  have e : mxF [o] = some (.d (.int (maxL is))) := by simp only [mxF, l.eq, q.eq, intsOf_map, h.l, if_true]
  rw [e]; exact h.r⟩
instance o_mn [l : LtC o ds] [q : ItsC ds is] : Stp (optW (mnF [o]) AO) (Sd (0 < is.length) (AO (.d (.int (minL is))))) := ⟨fun h => by
  have e : mnF [o] = some (.d (.int (minL is))) := by simp only [mnF, l.eq, q.eq, intsOf_map, h.l, if_true]
  rw [e]; exact h.r⟩
end
end Z
namespace Z
open PySem PySem.Spec PyProof.Rows L2
section
variable {A : O → Gs → Prop} {AF : Fl → Gs → Prop} {B : Exn → Gs → Prop} {g g' g1 : Gs} {m : M O} {mb ms : M Fl} {i : Nat} {c f : Str} {x : PyData} {s : Str} {n : Int} {fs : List (Str × PyData)} {hs cs : List Str} {ans : List (Str × Bool)} {AO : O → Prop}
def RaiK (c f : Str) (B : Exn → Gs → Prop) : O → Gs → Prop
  | .d x, g => flatF x = true ∧ B ⟨c, [(f, x)]⟩ g
  | _, _ => False
instance s_rai : Stp (Wp (raiM c f m g) AF B) (Wp (m g) (RaiK c f B) B) := ⟨fun h => by
  unfold raiM
  refine Res.wp_bd.mpr (h.imp (fun o g1 k => ?_) fun _ _ z => z)
  cases o with
  | d x =>
    dsimp only
    rw [if_pos k.1]
    exact k.2
  | _ => exact k.elim⟩
instance s_raiS : Stp (RaiK c f B (.d (.str s)) g) (B ⟨c, [(f, .str s)]⟩ g) := ⟨fun h => ⟨rfl, h⟩⟩
instance s_raiI : Stp (RaiK c f B (.d (.int n)) g) (B ⟨c, [(f, .int n)]⟩ g) := ⟨fun h => ⟨rfl, h⟩⟩
instance s_rai0 : Stp (Wp (raiM0 c g) AF B) (B ⟨c, []⟩ g) := ⟨fun h => h⟩
def HanK (hs : List Str) (i : Nat) (ms : M Fl) (AF : Fl → Gs → Prop) (B : Exn → Gs → Prop) : Exn → Gs → Prop := fun x g => Wp (hanM hs i ms x g) AF B
def TeK (i : Nat) (AF : Fl → Gs → Prop) : Fl → Gs → Prop := fun fl g => AF fl (g.set i none)
instance s_tryx : Stp (Wp (tryM hs i mb ms g) AF B) (Wp (mb g) AF (HanK hs i ms AF B)) := ⟨fun h => Res.wp_exc.mpr h⟩
instance s_han [p : Put g i (some (.exc c fs)) g'] : Stp (HanK hs i ms AF B ⟨c, fs⟩ g) (Sd (c ∈ hs) (Wp (ms g') (TeK i AF) NoB)) := ⟨fun h => by
  unfold HanK hanM
  rw [if_pos h.l, p.put]
  exact Res.wp_bd.mpr (Res.wp_noX.mpr h.r)⟩
instance s_te {fl : Fl} [p : Put g i none g'] : Stp (TeK i AF fl g) (AF fl g') := ⟨fun h => by
  unfold TeK
  rw [p.put]; exact h⟩
class AkC (ans : List (Str × Bool)) (c : Str) (b : outParam Bool) : Prop where
  eq : ans.lookup c = some b
instance lkH {b : Bool} {r : List (Str × Bool)} : AkC ((c, b) :: r) c b := ⟨by rw [List.lookup_cons]; simp⟩
def IsxK (ans : List (Str × Bool)) (A : O → Gs → Prop) : O → Gs → Prop
  | .exc c _, g => ∃ b, ans.lookup c = some b ∧ A (.d (.bool b)) g
  | _, _ => False
instance s_isx : Stp (Wp (isxM ans m g) A B) (Wp (m g) (IsxK ans A) B) := ⟨fun h => by
  unfold isxM
  refine Res.wp_bd.mpr (h.imp (fun o g1 k => ?_) fun _ _ z => z)
  cases o with
  | exc c fs =>
    obtain ⟨b, e, k⟩ := k
    dsimp only
    rw [e]
    exact k
  | _ => exact k.elim⟩
instance s_isxK {b : Bool} [l : AkC ans c b] : Stp (IsxK ans A (.exc c fs) g) (A (.d (.bool b)) g) := ⟨fun h => ⟨b, l.eq, h⟩⟩
def XfK (cs : List Str) (f : Str) (A : O → Gs → Prop) : O → Gs → Prop
  | .exc c fs, g => c ∈ cs ∧ ∃ x, fs.lookup f = some x ∧ A (.d x) g
  | _, _ => False
instance s_xf : Stp (Wp (xfM cs f m g) A B) (Wp (m g) (XfK cs f A) B) := ⟨fun h => by
  unfold xfM
  refine Res.wp_bd.mpr (h.imp (fun o g1 k => ?_) fun _ _ z => z)
  cases o with
  | exc c fs =>
    obtain ⟨hc, x, e, k⟩ := k
    dsimp only
    rw [if_pos hc, e]
    exact k
  | _ => exact k.elim⟩
instance s_xfK {r : List (Str × PyData)} : Stp (XfK cs f A (.exc c ((f, x) :: r)) g) (Sd (c ∈ cs) (A (.d x) g)) := ⟨fun h => ⟨h.l, x, by rw [List.lookup_cons]; simp, h.r⟩⟩
instance o_isNX : Stp (optW (isNF false [.exc c fs, .d .none]) AO) (AO (.d (.bool false))) := ⟨id⟩
instance o_isnNX : Stp (optW (isNF true [.exc c fs, .d .none]) AO) (AO (.d (.bool true))) := ⟨id⟩
instance o_isB {p q : Bool} : Stp (optW (isBF false [.d (.bool p), .d (.bool q)]) AO) (AO (.d (.bool (decide (p = q))))) := ⟨id⟩
instance o_isnB {p q : Bool} : Stp (optW (isBF true [.d (.bool p), .d (.bool q)]) AO) (AO (.d (.bool (!decide (p = q))))) := ⟨id⟩
def ChK (f' : List O → Option O) (mc : M O) (A : O → Gs → Prop) (B : Exn → Gs → Prop) (y : O) : O → Gs → Prop
  | .d (.bool b), g => IfK b (Wp (mc g) (fun u g2 => optW (f' [y, u]) fun r => A r g2) B) (A (.d (.bool false)) g)
  | _, _ => False
instance s_ch {h h' : List O → Option O} {ma mb mc : M O} : Stp (Wp (chM h h' ma mb mc g) A B) (Wp (ma g) (fun x g1 => Wp (mb g1) (fun y g2 => optW (h [x, y]) fun z => ChK h' mc A B y z g2) B) B) := ⟨fun k => by
  rw [wp_ch]
  refine k.mono (fun x g1 k => k.mono (fun y g2 k => ?_) fun _ _ z => z) fun _ _ z => z
  have key : ∀ oz : Option O, optW oz (fun z => ChK h' mc A B y z g2) → optW oz (fun z => match z with
    | .d (.bool k) => if k = true then Wp (mc g2) (fun u g3 => optW (h' [y, u]) fun o => A o g3) B else A (.d (.bool false)) g2
    | _ => False) := by
    intro oz k
    cases oz with
    | none => exact k
    | some z =>
      cases z with
      | d z =>
        cases z with
        | bool b => cases b <;> exact k
        | _ => exact k
      | _ => exact k
  exact key _ k⟩
instance s_chK {h' : List O → Option O} {mc : M O} {y : O} {b : Bool} : Stp (ChK h' mc A B y (.d (.bool b)) g) (IfK b (Wp (mc g) (fun u g2 => optW (h' [y, u]) fun r => A r g2) B) (A (.d (.bool false)) g)) := ⟨fun k => k⟩
def SlyK (A : O → Gs → Prop) (o : O) (i : Int) : O → Gs → Prop
  | .d (.int j), g => optW (slB o (some i) (some j)) fun r => A r g
  | _, _ => False
def SlxK (mh : M O) (A : O → Gs → Prop) (B : Exn → Gs → Prop) (o : O) : O → Gs → Prop
  | .d (.int i), g => Wp (mh g) (SlyK A o i) B
  | _, _ => False
instance s_slLh {ma ml mh : M O} : Stp (Wp (slLhM ma ml mh g) A B) (Wp (ma g) (fun o g1 => Wp (ml g1) (SlxK mh A B o) B) B) := ⟨fun k => by
  rw [wp_slLh]
  refine k.mono (fun o g1 k => k.mono (fun x g2 k => ?_) fun _ _ z => z) fun _ _ z => z
  cases x with
  | d x =>
    cases x with
    | int i =>
      refine Wp.mono k (fun y g3 k => ?_) fun _ _ z => z
      cases y with
      | d y => cases y <;> exact k
      | _ => exact k
    | _ => exact k
  | _ => exact k⟩
instance s_slx {mh : M O} {o : O} {i : Int} : Stp (SlxK mh A B o (.d (.int i)) g) (Wp (mh g) (SlyK A o i) B) := ⟨fun k => k⟩
instance s_sly {o : O} {i j : Int} : Stp (SlyK A o i (.d (.int j)) g) (optW (slB o (some i) (some j)) fun r => A r g) := ⟨fun k => k⟩
instance gr_exc : GrC (.exc c fs) := ⟨rfl⟩
end
end Z
namespace Z
open PySem PySem.Spec PyProof.Rows L2
/-- the texts, each once -/
def dd1 (acc : List Str) (x : Str) : List Str := if x ∈ acc then acc else acc ++ [x]
def ddS (l : List Str) : List Str := l.foldl dd1 []
theorem ddS_snoc (l : List Str) (x : Str) : ddS (l ++ [x]) = dd1 (ddS l) x := by unfold ddS; rw [List.foldl_append]; rfl
theorem mem_dd {z : Str} : ∀ {l acc : List Str}, z ∈ l.foldl dd1 acc ↔ z ∈ acc ∨ z ∈ l
  | [], acc => by simp
  | x :: r, acc => by
    rw [List.foldl_cons, mem_dd, List.mem_cons]
    unfold dd1
    by_cases h : x ∈ acc
    · rw [if_pos h]
      constructor
      · rintro (q | q)
        · exact .inl q
        · exact .inr (.inr q)
      · rintro (q | rfl | q)
        · exact .inl q
        · exact .inl h
        · exact .inr q
    · rw [if_neg h, List.mem_append, List.mem_singleton, or_assoc]
theorem mem_ddS {z : Str} {l : List Str} : z ∈ ddS l ↔ z ∈ l := by unfold ddS; rw [mem_dd]; simp
theorem ddS_len : ∀ l : List Str, (ddS l).length ≤ l.length := by
  have : ∀ l acc : List Str, (l.foldl dd1 acc).length ≤ acc.length + l.length := by
    intro l
    induction l with
    | nil => intro acc; simp
    | cons x r ih =>
      intro acc
      have h := ih (dd1 acc x)
      have h2 : (dd1 acc x).length ≤ acc.length + 1 := by unfold dd1; split <;> simp
      simp only [List.foldl_cons, List.length_cons]
      omega
  intro l
  have := this l []
  simpa [ddS] using this
def inT (xs : List Str) : Key → Bool
  | .inl _ => false
  | .inr z => decide (z ∈ xs)
theorem setOf_as {P : Program} {w : World} {h : Heap} {a : Addr} {S S' : Key → Bool} {n n' : Nat} (R : h.SetOf (mixKind P w) a S n) (e : ∀ k, S k = S' k) (e2 : n = n') : h.SetOf (mixKind P w) a S' n' := by
  obtain rfl : S = S' := funext e
  subst e2
  exact R
section
variable {P : Program} {w : World} {A : Around} {E : Value → Shared → Prop} {s : Shared}
theorem txt_loop {I : Addr} {fp wr : List Addr} {G : Array GenState → Array GenState → Prop} {n : Nat} {Pv : Nat → Value → Prop} {St : Nat → Shared → Prop} {R : Result → Shared → Prop}
    (W : WalksS P w A.in1 I fp wr G n Pv St) (a : Addr) (out : a ∉ fp) (xs : List Str) (len : n = xs.length) (few : xs.length + 1 < scanBound) (val : ∀ j v, Pv j v → ∃ z t, xs[j]? = some z ∧ v = .str z t) :
    ∀ (d j : Nat) (s : Shared), n - j = d → j ≤ n → St j s → s.heap.SetOf (mixKind P w) a (inT (xs.take j)) (ddS (xs.take j)).length →
      (∀ s', Moved (a :: wr) G s s' → s'.heap.SetOf (mixKind P w) a (inT xs) (ddS xs).length → R (.ok (.ret .none)) s') →
      codeAny (model P w) A (.builtin "set.update.loop" ⟨[.ref a, .ref I], []⟩) R s := by
  have away : a ∉ wr := fun q => out (W.sub _ q)
  have more : ∀ c ∈ wr, c ∈ a :: wr := fun c q => List.mem_cons_of_mem _ q
  intro d
  induction d with
  | zero =>
    intro j s dj le st R0 fin
    obtain rfl : j = n := by omega
    refine codeAny_builtin F.entry_set_update_loop ?_
    rw [Around.under_plainId F.plain_set_update_loop _]
    change wpAny _ A.in1 (pyNext (.ref I) >>= _) _ _ s
    refine wpAny_bind (W.done s _ _ st fun s1 mv => ?_)
    change wpAny _ A.in1 (ret Value.none) _ _ s1
    rw [List.take_of_length_le (by omega)] at R0
    exact wpAny_pure (fin s1 (mv.mono more) (setOf_at R0 fun o q => mv.heap a o away q))
  | succ d ih =>
    intro j s dj le st R0 fin
    have lt : j < n := by omega
    refine codeAny_builtin F.entry_set_update_loop ?_
    rw [Around.under_plainId F.plain_set_update_loop _]
    change wpAny _ A.in1 (pyNext (.ref I) >>= _) _ _ s
    refine wpAny_bind (W.item j s _ _ lt st fun v s1 pv st1 mv => ?_)
    obtain ⟨z, t, hz, rfl⟩ := val j v pv
    have R1 := setOf_at R0 fun o q => mv.heap a o away q
    change wpAny _ A.in1 (holding [Value.str z t] (setAdd a (.str z t)) >>= _) _ _ s1
    refine wpAny_bind (wpAny_holding ?_)
    unfold setAdd
    refine wpAny_holding ?_
    have isk : (mixKind P w).is (.inr z) (.str z t) = true := kV_is (k := .inr z) ⟨t, rfl⟩
    refine wpAny_bind ((mixKind P w).pyHash (k := .inr z) isk ?_)
    have cl : (ddS (xs.take j)).length ≤ j := Nat.le_trans (ddS_len _) (by rw [List.length_take]; omega)
    refine wpAny_setAddHashed_of (knd := mixKind P w) (s := { s1 with toks := s1.toks + 1 }) isk rfl R1 (by omega) fun h2 sb R2 => ?_
    have tk : xs.take (j + 1) = xs.take j ++ [z] := by rw [List.take_add_one, hz]; rfl
    have R3 : h2.SetOf (mixKind P w) a (inT (xs.take (j + 1))) (ddS (xs.take (j + 1))).length := by
      refine setOf_as R2 (fun k' => ?_) ?_
      · rw [tk]
        cases k' with
        | inl i => simp [inT]
        | inr y => simp [inT, List.mem_append]
      · rw [tk, ddS_snoc]
        unfold dd1
        by_cases q : z ∈ xs.take j
        · rw [if_pos (mem_ddS.mpr q)]; simp [inT, q]
        · rw [if_neg fun y => q (mem_ddS.mp y)]; simp [inT, q]
    refine wpAny_pure ⟨plainId_quiet F.plain_set_update_loop _, ih (j + 1) _ (by omega) lt (W.frame _ s1 _ _ st1 (Nat.le_succ _) fun c hc o q => ?_) R3 fun s2 mv2 R4 => ?_⟩
    · rw [sb.2 c fun e => out (e ▸ hc)]; exact q
    · refine fin s2 (Moved.trans W.gtrans ((mv.mono more).then_heap (Nat.le_succ _) fun c o hc q => ?_) mv2) R4
      rw [sb.2 c fun e => hc (e ▸ List.mem_cons_self)]; exact q
set_option maxHeartbeats 3200000 in
theorem call_setT {p : Addr} {us : Array Value} (xs : List Str) {Q : Value → Shared → Prop} (calm : A.handled = none) (pl : s.heap.IsTuple p us) (size_us : us.size = xs.length) (vals : ∀ (i : Nat) (v : Value), us[i]? = some v → ∃ z t, xs[i]? = some z ∧ v = .str z t) (few : xs.length + 1 < scanBound)
    (k5 : ∀ (h1 : Heap) (tk : Nat), h1.SetOf (mixKind P w) s.heap.objs.size (inT xs) (ddS xs).length → (∀ b o, s.heap.get? b = some o → h1.get? b = some o) → Q (.ref s.heap.objs.size) { s with heap := h1, toks := tk }) :
    wpAny (model P w) A (call (.type "set") [.ref p]) Q E s := by
  obtain ⟨c, tl, m1⟩ := F.called_set.mro
  have m2 := F.called_set.made
  have m3 := F.called_set.sub
  refine wpAny_call (codeAny_of_tree ?_)
  show wpAny (model P w) _ (callAny (.type "set") _) _ _ s
  have still : ∀ as, (Code.builtin "type.__call__" as).quiet = true := fun as => Code.quiet_builtin as (by decide +kernel)
  refine wpAny_pure ⟨still _, codeAny_builtin F.entry_type_call ?_⟩
  have lite := Around.under_plain (A := A) (weight_type_call_type "set" [.ref p] []) rfl
  rw [lite]
  have m4 := F.called_set.notType
  have m5 := F.called_set.canCreate
  have m6 := F.typeCall_set_1 (.ref p)
  repeat (any_goals (first | assumption | wp_step))

  refine codeAny_mono (code_set_led1 (.ref p) (E := E) (Q₁ := fun x s1 => x = .ref s.heap.objs.size ∧ s1 = { s with heap := hp0 w s }) ⟨rfl, rfl⟩) fun r s1 hr => ?_
  rcases r with e | fl
  · exact hr
  cases fl with
  | ret x =>
    obtain ⟨ex, es⟩ := hr
    subst ex; subst es
    have at0 : (hp0 w s).get? s.heap.objs.size = some (set0 w) := Heap.get?_push_size _ rfl
    have ty0 : Shared.TypeIs { s with heap := hp0 w s } (.ref s.heap.objs.size) "set" := ⟨_, at0, rfl⟩
    have i1 := F.called_set.init.lookup
    have i2 := F.called_set.init.bind (.ref s.heap.objs.size)
    repeat (any_goals (first | assumption | wp_step))

    refine codeAny_mono (codeAny_call_builtin (R := wants (fun r s2 => r = .none ∧ ∃ h1 tk, s2 = { s with heap := h1, toks := tk } ∧ h1.SetOf (mixKind P w) s.heap.objs.size (inT xs) (ddS xs).length ∧ (∀ b o, s.heap.get? b = some o → h1.get? b = some o)) E)
      F.called_set.init.plain F.entry_set_init (check_set_init_1 ty0 ?_)) fun r2 s2 hr2 => ?_
    · obtain ⟨⟨oc, od, odt, osl⟩, gl, hcl, n0, hdl⟩ := pl
      simp only at hcl hdl
      subst hcl; subst hdl
      have gl1 : (hp0 w s).get? p = some { cls := .type "tuple", dict := od, data := .seq us n0, slots := osl } := Heap.get?_push_of_some _ gl
      have j1 := F.sub_tuple_set
      have j2 := F.sub_tuple_frozenset
      have j3 : (Value.type "tuple" == Value.type "dict") = false := by decide
      have pl1 : (hp0 w s).IsTuple p us := ⟨_, gl1, rfl, n0, rfl⟩
      unfold Builtin.«set.__init__» noKeywords Builtin.Frozenset.updateFrom
      generalize hI : pyIter = PI
      wp_walk
      subst hI
      refine wpAny_pyIter_tuple pl1 ?_
      refine wpAny_bind (wpAny_runValue ?_)
      have ltp : p < s.heap.objs.size := Heap.lt_size gl
      have calm3 : A.in1.in1.in1.handled = none := by simp [calm]
      have sz1 : (hp0 w s).objs.size = s.heap.objs.size + 1 := Heap.size_push ..
      have ne1 : p ≠ (hp0 w s).objs.size := by rw [sz1]; exact Nat.ne_of_lt (Nat.lt_succ_of_lt ltp)
      have out1 : s.heap.objs.size ∉ [(hp0 w s).objs.size, p] := by
        simp only [List.mem_cons, List.not_mem_nil, or_false, not_or]
        exact ⟨by rw [sz1]; exact Nat.ne_of_lt (Nat.lt_succ_self _), Nat.ne_of_gt ltp⟩
      have first0 : ((hp0 w s).push { cls := .type "tuple_iterator", data := .fields #[.ref p, .int 0 0] }).get? s.heap.objs.size = some (set0 w) := Heap.get?_push_of_some _ at0
      refine txt_loop ((Walks.tuple calm3 _ p ne1 us).toS) s.heap.objs.size out1 xs size_us few vals (us.size - 0) 0 _ (by omega) (Nat.zero_le _) ⟨⟨_, Heap.get?_push_size _ rfl, rfl, rfl⟩, pl1.push _⟩ ⟨_, #[], 0, _, first0, ⟨rfl, rfl, rfl⟩, rfl, (fun e he => by simp at he), (fun k => by cases k <;> simp [inT]), (by decide), (by rfl), rfl⟩ fun s3 mv R3 => ?_
      obtain ⟨h3, g3, d3, t3, o3⟩ := s3
      obtain rfl : g3 = s.gens := mv.gens
      obtain rfl : d3 = s.drawn := mv.drawn
      obtain rfl : o3 = s.os := mv.os
      show wpAny (model P w) _ _ _ _ _
      refine wpAny_pure ?_
      show wpAny (model P w) _ (ret Value.none) _ _ _
      refine wpAny_pure ⟨rfl, h3, t3, rfl, R3, fun b o e => ?_⟩
      have b0 : b < s.heap.objs.size := Heap.lt_size e
      refine mv.heap b o ?_ (Heap.get?_push_of_some _ (Heap.get?_push_of_some _ e))
      simp only [List.mem_cons, List.not_mem_nil, or_false, not_or]
      exact ⟨Nat.ne_of_lt b0, by rw [sz1]; exact Nat.ne_of_lt (Nat.lt_succ_of_lt b0)⟩
    · rcases r2 with e | fl2
      · exact hr2
      cases fl2 with
      | ret r =>
        obtain ⟨e0, h1, tk, e1, R1, kp⟩ := hr2
        subst e0; subst e1
        repeat (any_goals (first | assumption | wp_step))
        exact k5 _ _ R1 kp
      | _ => exact hr2.elim
  | _ => exact hr.elim
end
end Z
namespace ZpL
open PySem PyProof.Rows RZ
section
variable {prog : Program} {w : World} {A : Around} {E : Value → Shared → Prop} {s : Shared}
theorem item_held {z TI TO T i1 i2 l1 l2 : Addr} {f : Bool} {oT : Obj} {k1 k2 : Nat} {xs ys : Array Value} {x y : Value} {Q : Value → Shared → Prop} (D : ZipApart z TI TO i1 i2 l1 l2)
    (hz : IsZipHeld s.heap z TI TO T f) (hT : s.heap.get? T = some oT) (hTI : IsPair s.heap TI (.ref i1) (.ref i2))
    (h1 : s.heap.IsTupleIter i1 l1 k1) (h2 : s.heap.IsTupleIter i2 l2 k2) (hl1 : s.heap.IsTuple l1 xs) (hl2 : s.heap.IsTuple l2 ys) (hx : xs[k1]? = some x) (hy : ys[k2]? = some y)
    (hQ : ∀ h', IsZipHeld h' z TI TO T true → h'.IsTupleIter i1 l1 (k1 + 1) → h'.IsTupleIter i2 l2 (k2 + 1) → IsPair h' s.heap.objs.size x y → h'.objs.size = s.heap.objs.size + 1 →
      (∀ c o, c ≠ z → c ≠ i1 → c ≠ i2 → s.heap.get? c = some o → h'.get? c = some o) → Q (.ref s.heap.objs.size) { s with heap := h' }) :
    wpAny (model prog w) A (Builtin.«zip.__next__» ⟨[.ref z], []⟩) (fun fin s' => ∃ v, fin = .done (.ret v) ∧ Q v s') E s := by
  show wpAny _ _ (field (.ref z) 2 >>= _) _ _ _
  refine wpAny_bind (wpAny_field hz rfl (x := .bool false) rfl ?_)
  show wpAny _ _ (field (.ref z) 3 >>= _) _ _ _
  refine wpAny_bind (wpAny_field hz rfl (x := .ref TI) rfl ?_)
  refine wpAny_bind (wpAny_seqItems hTI rfl ?_)
  show wpAny _ _ (Builtin.SmallTypes.ownedTupleIsFree (.ref z) >>= _) _ _ _
  refine wpAny_bind (wpAny_tupleHeld_zip hz hT fun h₁ hz₁ hs₁ => ?_)
  simp only [Bool.false_eq_true, if_false]
  refine wpAny_bind ?_
  rw [← Array.forIn_toList]
  simp only [List.forIn_cons, List.forIn_nil]
  refine wpAny_bind (wpAny_bind (wpAny_holding ?_))
  show wpAny _ _ (Builtin.SmallTypes.nextOf (.ref i1) >>= _) _ _ _
  refine wpAny_bind (nextOf_tuple_item (s := { s with heap := h₁ }) (h1.extBut hs₁.extBut D.i1z) (hl1.extBut hs₁.extBut D.l1z) hx fun h₂ h1₂ hs₂ => wpAny_pure ?_)
  refine wpAny_pure ?_
  refine wpAny_bind (wpAny_bind (wpAny_holding ?_))
  show wpAny _ _ (Builtin.SmallTypes.nextOf (.ref i2) >>= _) _ _ _
  refine wpAny_bind (nextOf_tuple_item (s := { s with heap := h₂ }) ((h2.extBut hs₁.extBut D.i2z).extBut hs₂.extBut D.i12.symm) ((hl2.extBut hs₁.extBut D.l2z).extBut hs₂.extBut D.l2i1) hy fun h₃ h2₃ hs₃ => wpAny_pure ?_)
  refine wpAny_pure (wpAny_pure ?_)
  show wpAny _ _ (newTuple [x, y] >>= _) _ _ _
  refine wpAny_bind (wpAny_newTuple ?_)
  have hsz : h₃.objs.size = s.heap.objs.size := by rw [hs₃.1, hs₂.1, hs₁.1]
  have hz₃ : IsZipHeld h₃ z TI TO T true := hs₃.extBut _ _ D.i2z.symm (hs₂.extBut _ _ D.i1z.symm hz₁)
  have hk : ∀ c o, c ≠ z → c ≠ i1 → c ≠ i2 → s.heap.get? c = some o → h₃.get? c = some o := fun c o c1 c2 c3 e => hs₃.extBut _ _ c3 (hs₂.extBut _ _ c2 (hs₁.extBut _ _ c1 e))
  have h1₃ : h₃.IsTupleIter i1 l1 (k1 + 1) := h1₂.extBut hs₃.extBut D.i12
  refine wpAny_pure ⟨_, rfl, ?_⟩
  show Q (.ref h₃.objs.size) _
  have hp : IsPair (h₃.push { cls := .type "tuple", data := .seq #[x, y] }) h₃.objs.size x y := Heap.get?_push_size _ rfl
  have hz4 : (h₃.push { cls := .type "tuple", data := .seq #[x, y] }).objs.size = h₃.objs.size + 1 := Heap.size_push ..
  rw [hsz] at hp hz4 ⊢
  exact hQ _ (Heap.get?_push_of_some _ hz₃) (h1₃.at fun o e => Heap.get?_push_of_some _ e) (h2₃.at fun o e => Heap.get?_push_of_some _ e) hp hz4 fun c o c1 c2 c3 e => Heap.get?_push_of_some _ (hk c o c1 c2 c3 e)
theorem end_held {z TI TO T i1 i2 l1 l2 : Addr} {f : Bool} {oT : Obj} {k1 k2 : Nat} {xs ys : Array Value} {Q : Fin → Shared → Prop} (hh : A.handled = none) (D : ZipApart z TI TO i1 i2 l1 l2)
    (hz : IsZipHeld s.heap z TI TO T f) (hT : s.heap.get? T = some oT) (hTI : IsPair s.heap TI (.ref i1) (.ref i2))
    (h1 : s.heap.IsTupleIter i1 l1 k1) (h2 : s.heap.IsTupleIter i2 l2 k2) (hl1 : s.heap.IsTuple l1 xs) (hl2 : s.heap.IsTuple l2 ys) (hend : xs[k1]? = none ∨ ys[k2]? = none)
    (hE : ∀ h' e, (∀ c o, c ≠ z → c ≠ i1 → c ≠ i2 → s.heap.get? c = some o → h'.get? c = some o) → (∃ o, h'.get? e = some o ∧ o.cls = .type "StopIteration") → E (.ref e) { s with heap := h' }) :
    wpAny (model prog w) A (Builtin.«zip.__next__» ⟨[.ref z], []⟩) Q E s := by
  show wpAny _ _ (field (.ref z) 2 >>= _) _ _ _
  refine wpAny_bind (wpAny_field hz rfl (x := .bool false) rfl ?_)
  show wpAny _ _ (field (.ref z) 3 >>= _) _ _ _
  refine wpAny_bind (wpAny_field hz rfl (x := .ref TI) rfl ?_)
  refine wpAny_bind (wpAny_seqItems hTI rfl ?_)
  show wpAny _ _ (Builtin.SmallTypes.ownedTupleIsFree (.ref z) >>= _) _ _ _
  refine wpAny_bind (wpAny_tupleHeld_zip hz hT fun h₁ hz₁ hs₁ => ?_)
  simp only [Bool.false_eq_true, if_false]
  refine wpAny_bind ?_
  rw [← Array.forIn_toList]
  simp only [List.forIn_cons, List.forIn_nil]
  refine wpAny_bind (wpAny_bind (wpAny_holding ?_))
  show wpAny _ _ (Builtin.SmallTypes.nextOf (.ref i1) >>= _) _ _ _
  cases hx : xs[k1]? with
  | none =>
    refine wpAny_bind (nextOf_tuple_end (s := { s with heap := h₁ }) hh (h1.extBut hs₁.extBut D.i1z) (hl1.extBut hs₁.extBut D.l1z) hx fun h₂ e hs₂ he => ?_)
    exact hE h₂ e (fun c o c1 c2 _ x => hs₂ _ _ c2 (hs₁.extBut _ _ c1 x)) he
  | some x =>
    have hy : ys[k2]? = none := by rcases hend with h | h; rw [hx] at h; cases h; exact h
    refine wpAny_bind (nextOf_tuple_item (s := { s with heap := h₁ }) (h1.extBut hs₁.extBut D.i1z) (hl1.extBut hs₁.extBut D.l1z) hx fun h₂ h1₂ hs₂ => wpAny_pure ?_)
    refine wpAny_pure ?_
    refine wpAny_bind (wpAny_bind (wpAny_holding ?_))
    show wpAny _ _ (Builtin.SmallTypes.nextOf (.ref i2) >>= _) _ _ _
    refine wpAny_bind (nextOf_tuple_end (s := { s with heap := h₂ }) hh ((h2.extBut hs₁.extBut D.i2z).extBut hs₂.extBut D.i12.symm) ((hl2.extBut hs₁.extBut D.l2z).extBut hs₂.extBut D.l2i1) hy fun h₃ e hs₃ he => ?_)
    exact hE h₃ e (fun c o c1 c2 c3 x => hs₃ _ _ c3 (hs₂.extBut _ _ c2 (hs₁.extBut _ _ c1 x))) he
theorem pyItem_held {z TI TO T i1 i2 l1 l2 : Addr} {f : Bool} {oT : Obj} {k1 k2 : Nat} {xs ys : Array Value} {x y : Value} {Q : Option Value → Shared → Prop} (D : ZipApart z TI TO i1 i2 l1 l2)
    (hz : IsZipHeld s.heap z TI TO T f) (hT : s.heap.get? T = some oT) (hTI : IsPair s.heap TI (.ref i1) (.ref i2))
    (h1 : s.heap.IsTupleIter i1 l1 k1) (h2 : s.heap.IsTupleIter i2 l2 k2) (hl1 : s.heap.IsTuple l1 xs) (hl2 : s.heap.IsTuple l2 ys) (hx : xs[k1]? = some x) (hy : ys[k2]? = some y)
    (hQ : ∀ h', IsZipHeld h' z TI TO T true → h'.IsTupleIter i1 l1 (k1 + 1) → h'.IsTupleIter i2 l2 (k2 + 1) → IsPair h' s.heap.objs.size x y → h'.objs.size = s.heap.objs.size + 1 →
      (∀ c o, c ≠ z → c ≠ i1 → c ≠ i2 → s.heap.get? c = some o → h'.get? c = some o) → Q (some (.ref s.heap.objs.size)) { s with heap := h' }) :
    wpAny (model prog w) A (pyNext (.ref z)) Q E s := by
  have hTy : s.TypeIs (.ref z) "zip" := ⟨_, hz, rfl⟩
  unfold pyNext
  exact wpAny_bind (wpAny_attempt (wpAny_callSpecial?_slot (name := Str.ofString "__next__") hTy F.slot_zip_next
    (wpAny_call_entry F.slot_zip_next hTy F.entry_zip_next
      (item_held D hz hT hTI h1 h2 hl1 hl2 hx hy fun h' a1 a3 a4 a5 a6 a7 => wpAny_pure (hQ h' a1 a3 a4 a5 a6 a7)) (F.args_zip_next_1 _))))
theorem pyEnd_held {z TI TO T i1 i2 l1 l2 : Addr} {f : Bool} {oT : Obj} {k1 k2 : Nat} {xs ys : Array Value} {Q : Option Value → Shared → Prop} (hh : A.handled = none) (D : ZipApart z TI TO i1 i2 l1 l2)
    (hz : IsZipHeld s.heap z TI TO T f) (hT : s.heap.get? T = some oT) (hTI : IsPair s.heap TI (.ref i1) (.ref i2))
    (h1 : s.heap.IsTupleIter i1 l1 k1) (h2 : s.heap.IsTupleIter i2 l2 k2) (hl1 : s.heap.IsTuple l1 xs) (hl2 : s.heap.IsTuple l2 ys) (hend : xs[k1]? = none ∨ ys[k2]? = none)
    (hQ : ∀ h', (∀ c o, c ≠ z → c ≠ i1 → c ≠ i2 → s.heap.get? c = some o → h'.get? c = some o) → Q none { s with heap := h' }) : wpAny (model prog w) A (pyNext (.ref z)) Q E s := by
  have hTy : s.TypeIs (.ref z) "zip" := ⟨_, hz, rfl⟩
  unfold pyNext
  refine wpAny_bind (wpAny_attempt (wpAny_callSpecial?_slot (name := Str.ofString "__next__") hTy F.slot_zip_next
    (wpAny_call_entry F.slot_zip_next hTy F.entry_zip_next (end_held hh D hz hT hTI h1 h2 hl1 hl2 hend fun h' e hk he => ?_) (F.args_zip_next_1 _))))
  obtain ⟨o, ho, hc⟩ := he
  refine wpAny_bind (wpAny_isInstance (T := "StopIteration") (b := true) ⟨o, ho, hc⟩ isSubtype_stop ?_)
  exact wpAny_pure (hQ _ hk)
end
/-- a zip object of two tuples that has told i pairs -/
structure St (z TI TO i1 i2 l1 l2 : Addr) (xs ys : Array Value) (S : Addr) (h : Heap) (i : Nat) : Prop where
  hTI : IsPair h TI (.ref i1) (.ref i2)
  h1 : h.IsTupleIter i1 l1 i
  h2 : h.IsTupleIter i2 l2 i
  t1 : h.IsTuple l1 xs
  t2 : h.IsTuple l2 ys
  hz : (IsZip h z TI TO .none ∧ ∃ a b, IsPair h TO a b) ∨ ∃ T f oT, IsZipHeld h z TI TO T f ∧ h.get? T = some oT ∧ T ≠ z ∧ T ≠ i1 ∧ T ≠ i2 ∧ T ≠ S
section
variable {prog : Program} {w : World} {A : Around} {E : Value → Shared → Prop} {s : Shared} {z TI TO i1 i2 l1 l2 S : Addr} {xs ys : Array Value} {i : Nat} {Q : Option Value → Shared → Prop}
theorem St.keep {h h' : Heap} (st : St z TI TO i1 i2 l1 l2 xs ys S h i) (k : ∀ b o, b ≠ S → h.get? b = some o → h'.get? b = some o) (nz : z ≠ S) (nTI : TI ≠ S) (nTO : TO ≠ S) (n1 : i1 ≠ S) (n2 : i2 ≠ S) (m1 : l1 ≠ S) (m2 : l2 ≠ S) : St z TI TO i1 i2 l1 l2 xs ys S h' i := by
  refine ⟨k _ _ nTI st.hTI, st.h1.at fun o e => k _ o n1 e, st.h2.at fun o e => k _ o n2 e, st.t1.at fun o e => k _ o m1 e, st.t2.at fun o e => k _ o m2 e, ?_⟩
  rcases st.hz with ⟨hz, a, b, hTO⟩ | ⟨T, f, oT, hz, hT, r1, r2, r3, r4⟩
  · exact .inl ⟨k _ _ nz hz, a, b, k _ _ nTO hTO⟩
  · exact .inr ⟨T, f, oT, k _ _ nz hz, k _ _ r4 hT, r1, r2, r3, r4⟩
theorem next (D : ZipApart z TI TO i1 i2 l1 l2) (hS : S < s.heap.objs.size) (st : St z TI TO i1 i2 l1 l2 xs ys S s.heap i) (hx : i < xs.size) (hy : i < ys.size)
    (hQ : ∀ h' tk, St z TI TO i1 i2 l1 l2 xs ys S h' (i + 1) → h'.get? s.heap.objs.size = some { cls := .type "tuple", data := .seq #[xs[i], ys[i]] } → h'.objs.size = s.heap.objs.size + 1 →
      (∀ b o, b ≠ z → b ≠ TO → b ≠ i1 → b ≠ i2 → s.heap.get? b = some o → h'.get? b = some o) → Q (some (.ref s.heap.objs.size)) { s with heap := h', toks := tk }) : wpAny (model prog w) A (pyNext (.ref z)) Q E s := by
  have ex := Array.getElem?_eq_getElem hx
  have ey := Array.getElem?_eq_getElem hy
  have lt : ∀ {c o}, s.heap.get? c = some o → s.heap.objs.size ≠ c := fun e => Nat.ne_of_gt (Heap.lt_size e)
  have n1 : s.heap.objs.size ≠ i1 := let ⟨_, e, _⟩ := st.h1; lt e
  have n2 : s.heap.objs.size ≠ i2 := let ⟨_, e, _⟩ := st.h2; lt e
  rcases st.hz with ⟨hz, a, b, hTO⟩ | ⟨T, f, oT, hz, hT, r1, r2, r3, r4⟩
  · refine pyNext_zipT_item D hz st.hTI hTO st.h1 st.h2 st.t1 st.t2 ex ey fun h' a1 a2 a3 a4 a5 a6 hk => ?_
    exact hQ h' s.toks ⟨hk _ _ D.TIz D.TITO D.TIi1 D.TIi2 st.hTI, a3, a4, st.t1.at fun o e => hk _ o D.l1z D.l1TO D.l1i1 D.l1i2 e, st.t2.at fun o e => hk _ o D.l2z D.l2TO D.l2i1 D.l2i2 e,
      .inr ⟨s.heap.objs.size, false, _, a1, a5, lt hz, n1, n2, Nat.ne_of_gt hS⟩⟩ a5 a6 fun c o c1 c2 c3 c4 e => hk c o c1 c2 c3 c4 e
  · refine pyItem_held D hz hT st.hTI st.h1 st.h2 st.t1 st.t2 ex ey fun h' a1 a3 a4 a5 a6 hk => ?_
    exact hQ h' s.toks ⟨hk _ _ D.TIz D.TIi1 D.TIi2 st.hTI, a3, a4, st.t1.at fun o e => hk _ o D.l1z D.l1i1 D.l1i2 e, st.t2.at fun o e => hk _ o D.l2z D.l2i1 D.l2i2 e,
      .inr ⟨T, true, oT, a1, hk _ _ r1 r2 r3 hT, r1, r2, r3, r4⟩⟩ a5 a6 fun c o c1 _ c3 c4 e => hk c o c1 c3 c4 e
theorem fin (D : ZipApart z TI TO i1 i2 l1 l2) (hh : A.handled = none) (st : St z TI TO i1 i2 l1 l2 xs ys S s.heap i) (hend : xs[i]? = none ∨ ys[i]? = none) (hQ : ∀ h', (∀ b o, b ≠ z → b ≠ TO → b ≠ i1 → b ≠ i2 → s.heap.get? b = some o → h'.get? b = some o) → Q none { s with heap := h' }) : wpAny (model prog w) A (pyNext (.ref z)) Q E s := by
  rcases st.hz with ⟨hz, a, b, hTO⟩ | ⟨T, f, oT, hz, hT, r1, r2, r3, r4⟩
  · exact pyNext_zipT_end hh D hz st.hTI hTO st.h1 st.h2 st.t1 st.t2 hend fun h' hk => hQ h' fun c o c1 c2 c3 c4 e => hk c o c1 c2 c3 c4 e
  · exact pyEnd_held hh D hz hT st.hTI st.h1 st.h2 st.t1 st.t2 hend fun h' hk => hQ h' fun c o c1 _ c3 c4 e => hk c o c1 c3 c4 e
end
structure Made (xs ys : Array Value) (lo : Addr) (h : Heap) (as : List Addr) : Prop where
  rise : as.Pairwise (· < ·)
  above : ∀ a ∈ as, lo < a
  pairs : ∀ (j : Nat) (a : Addr), as[j]? = some a → ∃ x y, xs[j]? = some x ∧ ys[j]? = some y ∧ h.get? a = some { cls := .type "tuple", data := .seq #[x, y] }
theorem Made.there {xs ys : Array Value} {lo : Addr} {h : Heap} {as : List Addr} (g : Made xs ys lo h as) {a : Addr} (ha : a ∈ as) : a < h.objs.size := by
  obtain ⟨j, hj⟩ := List.mem_iff_getElem?.mp ha
  obtain ⟨_, _, _, _, e⟩ := g.pairs j a hj
  exact Heap.lt_size e
end ZpL
namespace Z
open PySem PySem.Spec L2
def zplF : List O → Option O
  | [.d (.tuple ds), .d (.tuple es)] => if ds.length = es.length ∧ zpOk ds es = true then some (.lst ((zpD ds es).map O.d)) else none
  | _ => none
section
variable {X : Cx} {W : WX} {pu : Bool} {Ex : List (Addr × HO)} {ws : Roots}
variable {AO : O → Prop} {ds es : List PyData}
instance o_zpl : Stp (optW (zplF [.d (.tuple ds), .d (.tuple es)]) AO) (Sd (ds.length = es.length ∧ zpOk ds es = true) (AO (.lst ((zpD ds es).map O.d)))) := ⟨fun h => by
  have e : zplF [.d (.tuple ds), .d (.tuple es)] = some (.lst ((zpD ds es).map O.d)) := by
    show (if _ then _ else _) = _
    rw [if_pos h.1]
  rw [e]; exact h.2⟩
end
end Z
namespace Z
open PySem PySem.Spec L2
/-- no dict in it, not deep, its text not long -/
def shOk (d : PyData) : Bool := d.showable && !d.hasDict && decide (d.depth ≤ 60) && decide (d.shown.length ≤ 16777216)
def reprF : List O → Option O
  | [.d (.tuple ds)] => if shOk (.tuple ds) = true then some (.d (.str (PyData.tuple ds).shown)) else none
  | _ => none
section
variable {X : Cx} {W : WX} {pu : Bool} {AO : O → Prop} {ds : List PyData}
instance o_repr : Stp (optW (reprF [.d (.tuple ds)]) AO) (Sd (shOk (.tuple ds) = true) (AO (.d (.str (PyData.tuple ds).shown)))) := ⟨fun h => by
  have e : reprF [.d (.tuple ds)] = some (.d (.str (PyData.tuple ds).shown)) := by
    show (if _ then _ else _) = _
    rw [if_pos h.l]
  rw [e]; exact h.r⟩
end
end Z
namespace Z
open PySem PySem.Spec L2
def keyD : Key → PyData
  | .inl i => .int i
  | .inr s => .str s
def gAll : List (Key × O) → Option (List (Key × PyData))
  | [] => some []
  | (k, .d x) :: r => match gAll r with | some t => some ((k, x) :: t) | none => none
  | _ :: _ => none
theorem gAll_of : ∀ kds : List (Key × PyData), gAll (kds.map fun p => (p.1, O.d p.2)) = some kds
  | [] => rfl
  | p :: r => by simp only [List.map_cons, gAll, gAll_of r]
def lkO1 : O → Option O
  | .dK kos => (gAll kos).map O.gK
  | .dT kos => (gdOf kos).map O.gD
  | .gK kds => some (.gK kds)
  | .gD kds => some (.gD kds)
  | _ => none
def lkVM (m : M O) : M O := M.bd m fun o g => match lkO1 o with
  | some y => .ok y g
  | none => .bad
def itG : O → M (List PyData)
  | .gK kds, g => .ok (kds.map fun p => keyD p.1) g
  | .gD kds, g => if (kds.all fun p => p.1.all kI) = true then .ok (kds.map fun p => tupD p.1) g else .bad
  | _, _ => .bad
section
variable {X : Cx} {W : WX} {pu : Bool} {H H' : Hp} {Ex : List (Addr × HO)} {σ : L2.St} {g : Gs} {T ws rs : Roots} {e : Expr} {m : M O} {mp : M Pth} {v : V} {o : O}
def dcpF : List O → Option O
  | [.gK kds] => if (kds.map (·.1)).Nodup then some (.dK (kds.map fun p => (p.1, O.d p.2))) else none
  | _ => none
end
end Z
namespace L2.DX
open PySem PySem.Spec PyProof.Rows
end L2.DX
namespace Z
open PySem PySem.Spec L2
def putAll (kos : List (Key × O)) (mds : List (Key × PyData)) : List (Key × O) := mds.foldl (fun acc p => putD acc p.1 (.d p.2)) kos
def updHM (i : Nat) (mp : M Pth) (me : M O) : M O := M.bd mp fun π g => match getPl g i π with
  | some (.dK kos) => .all fun v => (me (setPl g i π (.hole (adr v)))).bd fun o g2 => match getPl g2 i π, o with
    | some (.hole b), .gK mds => if b = adr v ∧ kos.length + mds.length ≤ 16777216 then .ok (.d .none) (setPl g2 i π (.dK (putAll kos mds))) else .bad
    | _, _ => .bad
  | _ => .bad
/-- a dict at a place is locked, ahead of some statements -/
def ghLF (i : Nat) (π : Pth) (m : M Fl) : M Fl := fun g => match getPl g i π with
  | some x => match lkO1 x with
    | some y => m (setPl g i π y)
    | none => .bad
  | none => .bad
section
variable {g : Gs} {i : Nat} {A : O → Gs → Prop} {AF : Fl → Gs → Prop} {B : Exn → Gs → Prop} {x y : O} {mp : M Pth} {m : M O}
theorem wp_ghL {π : Pth} {mf : M Fl} (h : getPl g i π = some x) (hl : lkO1 x = some y) (k : Wp (mf (setPl g i π y)) AF B) : Wp (ghLF i π mf g) AF B := by
  unfold ghLF
  rw [h]
  simp only [hl]
  exact k
theorem wp_lkV (h : Wp (m g) (fun o g1 => ∃ y, lkO1 o = some y ∧ A y g1) B) : Wp (lkVM m g) A B := by
  unfold lkVM
  refine (wp_bd (m := m)).mpr (h.mono (fun o g1 q => ?_) fun _ _ z => z)
  obtain ⟨y, h2, h3⟩ := q
  simp only [h2]
  exact h3
end
end Z
namespace Z
open PySem PySem.Spec L2
def disp1S (mk mv : M O) : M O := fun g => (mk g).noX.bd fun ok g1 => (mv g1).noX.bd fun ov g2 => match ok with
  | .d (.str i) => .ok (.dK [(.inr i, ov)]) g2
  | _ => .bad
section
variable {A : O → Gs → Prop} {B : Exn → Gs → Prop} {g : Gs} {mk mv : M O}
def D1SK (mv : M O) (A : O → Gs → Prop) : O → Gs → Prop
  | .d (.str i), g => Wp (mv g) (fun ov g2 => A (.dK [(.inr i, ov)]) g2) NoB
  | _, _ => False
instance s_disp1S : Stp (Wp (disp1S mk mv g) A B) (Wp (mk g) (D1SK mv A) NoB) := ⟨fun h => by
  unfold disp1S
  refine Res.wp_bd.mpr (Res.wp_noX.mpr (h.mono (fun ok g1 q => ?_) fun _ _ z => z))
  unfold D1SK at q
  split at q
  · exact Res.wp_bd.mpr (Res.wp_noX.mpr (q.mono (fun ov g2 z => z) fun _ _ z => z))
  · exact q.elim⟩
instance s_d1SK {i : Str} : Stp (D1SK mv A (.d (.str i)) g) (Wp (mv g) (fun ov g2 => A (.dK [(.inr i, ov)]) g2) NoB) := ⟨id⟩
end
end Z
namespace Z
open PySem PySem.Spec L2
/-- a field of an instance's fields -/
class FdC (fs : List (Str × O)) (f : Str) (x : outParam O) : Prop where
  eq : ∃ j, fix1 (fs.map (·.1)) f = some j ∧ (fs.map (·.2))[j]? = some x
/-- a field changed -/
class FpC (fs : List (Str × O)) (f : Str) (y : O) (fs' : outParam (List (Str × O))) : Prop where
  eq : ∃ j x, fix1 (fs.map (·.1)) f = some j ∧ (fs.map (·.2))[j]? = some x ∧ setV fs j y = fs'
section
variable {g g' : Gs} {i : Nat} {c f : Str} {fs fs' : List (Str × O)} {o x y z : O} {π : Pth} {A : O → Gs → Prop} {AF : Fl → Gs → Prop} {AD : List PyData → Gs → Prop} {AO : O → Prop} {B : Exn → Gs → Prop} {mp : M Pth} {m : M O} {mf : M Fl}
instance at_ins [h : FdC fs f x] : AtC c f (.ins c fs) x := ⟨by
  obtain ⟨j, h1, h2⟩ := h.eq
  simp only [fldO, if_true, h1, h2]⟩
instance au_ins [h : FdC fs f x] [u : UnfC x y] : AtU c f (.ins c fs) y := ⟨x, by
  obtain ⟨j, h1, h2⟩ := h.eq
  simp only [fldO, if_true, h1, h2], u.eq⟩
theorem unf_mk (x : O) : unfr (mkFr x) = unfr x := by cases x <;> rfl
instance au_fr [h : FdC fs f x] [u : UnfC x y] : AtU c f (.fr (.ins c fs)) y := ⟨mkFr x, by
  obtain ⟨j, h1, h2⟩ := h.eq
  simp only [fldO, if_true, h1, h2], by rw [unf_mk, u.eq]⟩
class MkFC (x : O) (y : outParam O) : Prop where
  eq : mkFr x = y
instance mkfD {d : PyData} : MkFC (.d d) (.d d) := ⟨rfl⟩
instance mkfF {d : O} : MkFC (.fr d) (.fr d) := ⟨rfl⟩
instance mkfG {d : List (Key × PyData)} : MkFC (.gK d) (.fr (.gK d)) := ⟨rfl⟩
instance mkfT {d : List (List Key × PyData)} : MkFC (.gD d) (.fr (.gD d)) := ⟨rfl⟩
instance at_fr [h : FdC fs f x] [u : MkFC x y] : AtC c f (.fr (.ins c fs)) y := ⟨by
  obtain ⟨j, h1, h2⟩ := h.eq
  simp only [fldO, if_true, h1, h2, u.eq]⟩
/-- what stands at a place -/
class GpC (g : Gs) (i : Nat) (π : Pth) (x : outParam O) : Prop where
  eq : getPl g i π = some x
/-- a place changed -/
class SpC (g : Gs) (i : Nat) (π : Pth) (y : O) (g' : outParam Gs) : Prop where
  eq : setPl g i π y = g'
instance gp0 [h : Get g i (some o)] : GpC g i [] o := ⟨getPl_nil h.get⟩
instance gpF [h : Get g i (some (.ins c fs))] [k : FdC fs f x] : GpC g i [.fld f] x := ⟨by
  obtain ⟨j, h1, h2⟩ := k.eq
  unfold getPl
  rw [h.get]
  simp only [getP, sub1, cix, chs, h1, h2]⟩
instance sp0 [h : Get g i (some o)] [p : Put g i (some y) g'] : SpC g i [] y g' := ⟨by rw [setPl_nil h.get, p.put]⟩
instance spFl [h : Get g i (some (.ins c fs))] [k : FpC fs f y fs'] [p : Put g i (some (.ins c fs')) g'] : SpC g i [.fld f] y g' := ⟨by
  obtain ⟨j, x, h1, h2, h3⟩ := k.eq
  unfold setPl
  rw [h.get]
  simp only [setP, sub1, put1, cix, chs, h1, h2, setC, h3, p.put]⟩
/-- locking -/
class LkDC (x : O) (y : outParam O) : Prop where
  eq : lkO1 x = some y
instance lkdK {kds : List (Key × PyData)} : LkDC (.gK kds) (.gK kds) := ⟨rfl⟩
instance lkdD {kds : List (List Key × PyData)} : LkDC (.gD kds) (.gD kds) := ⟨rfl⟩
instance lkdM {kds : List (Key × PyData)} : LkDC (.dK (kds.map fun p => (p.1, O.d p.2))) (.gK kds) := ⟨by simp only [lkO1, gAll_of]; rfl⟩
instance s_ghL [h : GpC g i π x] [l : LkDC x y] [p : SpC g i π y g'] : Stp (Wp (ghLF i π mf g) AF B) (Wp (mf g') AF B) := ⟨fun k => wp_ghL h.eq l.eq (by rw [p.eq]; exact k)⟩
/-- standing still -/
class StFC (x : O) (y : outParam O) : Prop where
  eq : stF x = y
instance stfI : StFC (.ins c fs) (.fr (.ins c fs)) := ⟨rfl⟩
instance stfF : StFC (.fr x) (.fr x) := ⟨rfl⟩
instance s_ghP [h : GpC g i π x] [l : StFC x y] [p : SpC g i π y g'] : Stp (Wp (ghPF i π mf g) AF B) (Wp (mf g') AF B) := ⟨fun k => wp_ghP h.eq (by rw [l.eq, p.eq]; exact k)⟩
def LkVK (A : O → Gs → Prop) (o : O) (g : Gs) : Prop := ∃ y, lkO1 o = some y ∧ A y g
instance s_lkV : Stp (Wp (lkVM m g) A B) (Wp (m g) (LkVK A) B) := ⟨fun h => wp_lkV h⟩
instance s_lkVK [l : LkDC x y] : Stp (LkVK A x g) (A y g) := ⟨fun h => ⟨y, l.eq, h⟩⟩
instance s_itGK {kds : List (Key × PyData)} : Stp (Wp (itG (.gK kds) g) AD B) (AD (kds.map fun p => keyD p.1) g) := ⟨fun h => h⟩
instance s_itGD {kds : List (List Key × PyData)} : Stp (Wp (itG (.gD kds) g) AD B) (Sd ((kds.all fun p => p.1.all kI) = true) (AD (kds.map fun p => tupD p.1) g)) := ⟨fun h => by
  show Wp (if _ then _ else _) _ _
  rw [if_pos h.l]
  exact h.r⟩
/-- dict(locked) -/
instance o_dcp {kds : List (Key × PyData)} : Stp (optW (dcpF [.gK kds]) AO) (Sd ((kds.map (·.1)).Nodup) (AO (.dK (kds.map fun p => (p.1, O.d p.2))))) := ⟨fun h => by
  have e : dcpF [.gK kds] = some (.dK (kds.map fun p => (p.1, O.d p.2))) := by
    show (if _ then _ else _) = _
    rw [if_pos h.l]
  rw [e]; exact h.r⟩
/-- update -/
def UpK (i : Nat) (π : Pth) (kos : List (Key × O)) (a : Addr) (A : O → Gs → Prop) (o : O) (g : Gs) : Prop := ∃ mds, o = .gK mds ∧ getPl g i π = some (.hole a) ∧ kos.length + mds.length ≤ 16777216 ∧ A (.d .none) (setPl g i π (.dK (putAll kos mds)))
def UpP (i : Nat) (m : M O) (A : O → Gs → Prop) (B : Exn → Gs → Prop) (π : Pth) (g : Gs) : Prop := ∃ kos, getPl g i π = some (.dK kos) ∧ ∀ a : Addr, Wp (m (setPl g i π (.hole a))) (UpK i π kos a A) B
instance s_upd : Stp (Wp (updHM i mp m g) A B) (Wp (mp g) (UpP i m A B) B) := ⟨fun h => by
  unfold updHM
  refine (wp_bd (m := mp)).mpr (h.mono (fun π g1 q => ?_) fun _ _ z => z)
  obtain ⟨kos, e, q⟩ := q
  rw [e]
  refine wp_all.mpr fun v => ?_
  refine Res.wp_bd.mpr ((q (adr v)).mono (fun o g2 z => ?_) fun _ _ z => z)
  obtain ⟨mds, rfl, h1, h2, h3⟩ := z
  rw [h1]
  simp only [h2, and_self, if_true]
  exact h3⟩
instance s_upK {mds : List (Key × PyData)} {a : Addr} {kos : List (Key × O)} [h : GpC g i π (.hole a)] [p : SpC g i π (.dK (putAll kos mds)) g'] : Stp (UpK i π kos a A (.gK mds) g) (Sd (kos.length + mds.length ≤ 16777216) (A (.d .none) g')) := ⟨fun k => ⟨mds, rfl, h.eq, k.l, by rw [p.eq]; exact k.r⟩⟩
end
end Z
namespace Z
open PySem PySem.Spec L2
section
variable {X : Cx} {W : WX} {pu pv pw : Bool} {H H' : Hp} {Ex : List (Addr × HO)} {σ σ' : L2.St} {g : Gs} {T T' ws ws' rs : Roots} {e a b o lo hi : Expr} {es : List Expr} {m : M O} {ms : M (List O)} {pos p p2 apos : Pos} {k j np : Nat} {x : Str}
def rSetT (X : Cx) : List V → Hp → VK → Prop := fun xs H Q => ∃ (l : Addr) (ss : List Str), xs = [.ref l] ∧ SqT X.K H l (ss.map V.str) ∧ ss.length ≤ 1000 ∧ ∀ q : Addr, H q = none → Q (.ref q) (upd H q (SetK X.prog X.w q (inT ss) (ddS ss).length))
open PyProof.Rows in
theorem cr_setT (hc : X.calm = true) : CallR X (.type "set") (rSetT X) := by
  intro pins s σ H xs us Q I r h
  obtain ⟨l, ss, ex, hq, hl, k5⟩ := h
  subst ex
  obtain ⟨u, eu, rx⟩ := vals1 r
  subst eu
  cases rx
  obtain ⟨its, r', pl, hz⟩ := I.tuple hq
  have hsz : its.toArray.size = ss.length := by rw [List.size_toArray, ← r'.length, List.length_map]
  refine call_setT ss (I.ok.hd hc) pl hsz (fun i v hv => ?_) (by unfold scanBound; omega) fun h1 tk R kp => ?_
  · have hi : i < ss.length := by rw [← hsz]; exact (Array.getElem?_eq_some_iff.mp hv).1
    obtain ⟨w, hw, t', hw'⟩ := r'.get (i := i) (x := .str ss[i]) (by simp [hi])
    have e : its[i]? = some v := by rw [← hv]; simp
    rw [e] at hw
    cases hw
    exact ⟨ss[i], t', List.getElem?_eq_getElem hi, hw'⟩
  · have fr := I.hok.fresh (Nat.le_refl s.heap.objs.size)
    exact ⟨.ref s.heap.objs.size, _, I.laid (t' := tk) kp (Nat.le_refl _) (setK_new R), rfl, k5 _ fr⟩
def rLenK (X : Cx) : List V → Hp → VK → Prop := fun xs H Q => ∃ (l : Addr) (S : Key → Bool) (n : Nat), xs = [.ref l] ∧ H l = some (SetK X.prog X.w l S n) ∧ n ≤ 1000 ∧ Q (.int ((n : Nat) : Int)) H
open PyProof.Rows in
theorem cr_lenK : CallR X (.builtin "len") (rLenK X) := by
  intro pins s σ H xs us Q I r h
  obtain ⟨l, S, n, rfl, hl, hn, q⟩ := h
  obtain ⟨u, rfl, rx⟩ := vals1 r
  obtain rfl : u = .ref l := rx
  obtain ⟨o, es, ep, t, ho, hex, hd, _, _, _, hf, hc⟩ := setK_get I hl
  subst hc
  exact call_len_set ho hex hd hf (by omega) ⟨.int ((es.size : Nat) : Int), H, I.tok _, ⟨_, rfl⟩, q⟩
def lsetF : List O → Option O
  | [.d (.tuple ds)] => match strsOf ds with
    | some ss => if ss.length ≤ 1000 then some (.d (.int ((ddS ss).length : Nat))) else none
    | none => none
  | _ => none
theorem ev_lenSetT {q : Pos} (hc : X.calm = true) (hP : EvP X W pu a m) (hm : X.mg "len" = none) (hm2 : X.mg "set" = none) (hg : Gl X "len" := by rfl) (hg2 : Gl X "set" := by rfl)
    (hs1 : starEach [a] X.env = (false, eval a X.env) :: starEach [] X.env := by rfl) (hp1 : (backTo q (starEach [] X.env)).any (·.1) = false := by rfl)
    (hs2 : starEach [.Call (.Name "set" p2) [a] [] q] X.env = (false, eval (.Call (.Name "set" p2) [a] [] q) X.env) :: starEach [] X.env := by rfl) (hp2 : (backTo pos (starEach [] X.env)).any (·.1) = false := by rfl) :
    Ev X W pu (.Call (.Name "len" p) [.Call (.Name "set" p2) [a] [] q] [] pos) (opM lsetF (consM m (M.ret []))) := by
  obtain ⟨t, h1, h2⟩ := hP.ex
  have bs : bootBuiltins "len" = some (.builtin "len") := by decide +kernel
  have bt : bootBuiltins "set" = some (.type "set") := by decide +kernel
  refine ⟨_, pe_callB cr_lenK hg hm bs (pa_cons (pe_callTy (cr_setT hc) hg2 hm2 bt (pa_cons h1 pa_nil hs1) (by decide) (by decide) hs1 hp1) pa_nil hs2) (by decide) (by decide) hs2 hp2, fun σ H Q g T Ex ws a0 w => ?_⟩
  refine h2 σ H _ g T Ex ws a0 ?_
  rw [wp_op, wp_cons] at w
  refine w.imp (fun o g' k5 v H' s a' => ?_) fun _ _ k5 => k5
  rw [wp_ret] at k5
  unfold lsetF optW at k5
  simp only at k5
  split at k5
  · rename_i r hr
    split at hr
    · rename_i ds eds
      cases eds
      split at hr
      · rename_i ss e1
        split at hr
        · rename_i hlt
          cases hr
          obtain ⟨Hf, sm, hw, cl⟩ := a'.rel.fr
          obtain ⟨_, q1⟩ := hw _ List.mem_cons_self
          cases q1 with
          | d q1 =>
            obtain ⟨ad, vs, e3, sq, pp⟩ := dpTup q1
            simp only at e3
            subst e3
            obtain rfl := strsOf_ok e1 pp
            refine ⟨ad, ss, rfl, sameT sm.same sq, hlt, fun q2 hq2 => ?_⟩
            refine ⟨q2, _, _, rfl, upd_same, Nat.le_trans (ddS_len ss) hlt, ?_⟩
            have s2 := sameNew hq2 (SetK X.prog X.w q2 (inT ss) (ddS ss).length)
            have r2 := a'.rel.same s2
            have r3 := r2.data fun _ => .int (((ddS ss).length : Nat) : Int)
            refine k5 _ _ (fun z => ?_) (.ofTop a'.fit (r3.views fun p m => List.mem_cons_of_mem _ m))
            obtain ⟨e4, e5⟩ := s z
            exact ⟨e4, e5.trans s2⟩
        · cases hr
      · cases hr
    · cases hr
  · exact k5.elim
end
theorem lset_of {ss : List Str} {AO : O → Prop} (h : ss.length ≤ 1000) (k : AO (.d (.int ((ddS ss).length : Nat)))) : optW (lsetF [.d (.tuple (ss.map PyData.str))]) AO := by
  have e : lsetF [.d (.tuple (ss.map PyData.str))] = some (.d (.int ((ddS ss).length : Nat))) := by
    simp only [lsetF, strsOf_map, h, if_true]
  rw [e]; exact k
end Z
namespace Z
open PySem PySem.Spec L2
section
variable {K : PySem.W.Frag} {mg : Str → Option Value} {H H' : Hp} {Ex : List (Addr × HO)} {T ws rs : Roots} {X : Cx}
def leSF : List O → Option O
  | [.d (.str i), .d (.str j)] => some (.d (.bool (!decide (j.cps.toList < i.cps.toList))))
  | _ => none
theorem pr_leS : PR X (r2L (fun x y H Q => ∃ i j, x = .str i ∧ y = .str j ∧ Q (.bl (!decide (j.cps.toList < i.cps.toList))) H)) leSF := by
  intro xs os H Ex rs ws Q o hl r hf k
  unfold leSF at hf
  split at hf
  · rename_i i j
    cases hf
    obtain ⟨x, y, rfl⟩ := two hl
    obtain ⟨Hf, s, hw, cl⟩ := r.fr
    obtain ⟨_, h1⟩ := hw _ zipHead
    obtain ⟨_, h2⟩ := hw _ zipSnd
    obtain rfl := owS h1
    obtain rfl := owS h2
    exact ⟨i, j, rfl, rfl, k _ _ (Same.refl _) (r.data fun _ => .bl _)⟩
  · cases hf
end
instance o_leS {i j : Str} {AO : O → Prop} : Stp (optW (leSF [.d (.str i), .d (.str j)]) AO) (AO (.d (.bool (!decide (j.cps.toList < i.cps.toList))))) := ⟨id⟩
end Z
namespace Z
open PySem PySem.Spec L2
section
variable {X : Cx} {W : WX} {pu pv pw : Bool} {a b : Expr} {ma mb : M O} {pos : Pos}
theorem et_chain {op op' : CmpOp} {r r' : R2} {f f' : List O → Option O} {c : Expr} {mc : M O} {pw : Bool} (ho : OpR X (compareOp op) r) (ho' : OpR X (compareOp op') r') (pr : PR X (r2L r) f) (pr' : PR X (r2L r') f') (ha : Ev X W pu a ma) (hb : Ev X W pv b mb) (hc : Ev X W pw c mc)
    (hm : lastMarks [op, op'] [b, c] = false) : EvT X W (pu && (pv && pw)) (.Compare a [op, op'] [b, c] pos) (tstM (chM f f' ma mb mc)) := by
  obtain ⟨ta, a1, a2⟩ := ha.ex
  obtain ⟨tb, b1, b2⟩ := hb.ex
  obtain ⟨tc, c1, c2⟩ := hc.ex
  refine ⟨_, pt_chain ho ho' a1 b1 c1 hm, tstCore fun σ H Q g T Ex ws a w => ?_⟩
  refine a2 σ H _ g T Ex ws a (w.bd.imp (fun x g1 k v H1 s a' => ?_) fun _ _ k => k)
  refine b2 σ H1 _ g1 _ Ex _ a' (k.bd.imp (fun y g2 k u H2 s2 a'' => ?_) fun x g2 k H2 cls d a2 => k H2 cls d a2.drop)
  have k := k.bd.bd
  obtain ⟨z, hz, k⟩ := wpLift k
  obtain ⟨q, e, kk⟩ := wpB k.bd
  clear k
  subst e
  have rr := a''.top.see
  have r0 : Rel X.K X.mg H2 Ex ((v, x) :: (u, y) :: (roots σ g2 ++ T)) ((u, y) :: Vs pv (Vs pu ws)) := rr.perm ((List.Perm.cons _ List.perm_middle).trans (.swap _ _ _))
  have r1 : Rel X.K X.mg H2 Ex ((v, x) :: (u, y) :: (roots σ g2 ++ T)) ([v, u].zip [x, y] ++ Vs pv (Vs pu ws)) := r0.see
  refine pr [v, u] [x, y] H2 Ex _ _ _ _ rfl r1 hz fun w1 H3 s3 r3 => ?_
  refine ⟨q, r3.isB, ?_⟩
  have r4 : Rel X.K X.mg H3 Ex ((u, y) :: (roots σ g2 ++ T)) (Vs pv (Vs pu ws)) := (r3.drop.drop).views fun p m => List.mem_append_right _ m
  cases q with
  | true =>
    refine iteT (c2 σ H3 _ g2 _ Ex _ (.ofTop a''.fit r4) (kk.bd.imp (fun o g3 k w2 H4 s4 a4 => ?_) fun x g2 k H2 cls d a2 => k H2 cls d a2.drop))
    obtain ⟨z2, hz2, k⟩ := wpLift k.bd
    have rr := a4.top.see
    have r0 : Rel X.K X.mg H4 Ex ((u, y) :: (w2, o) :: (roots σ g3 ++ T)) ((w2, o) :: Vs pw (Vs pv (Vs pu ws))) := rr.perm ((List.Perm.cons _ List.perm_middle).trans (.swap _ _ _))
    have r1 : Rel X.K X.mg H4 Ex ((u, y) :: (w2, o) :: (roots σ g3 ++ T)) ([u, w2].zip [y, o] ++ Vs pw (Vs pv (Vs pu ws))) := r0.see
    refine pr' [u, w2] [y, o] H4 Ex _ _ _ _ rfl r1 hz2 fun w3 H5 s5 r5 => k w3 H5 (fun t => ?_) (.ofTop a4.fit ?_)
    · obtain ⟨e1, f1⟩ := s (andL t)
      obtain ⟨e2, f2⟩ := s2 (andL (andR t))
      obtain ⟨e3, f3⟩ := s4 (andR (andR t))
      exact ⟨e3.trans (e2.trans e1), f1.trans (f2.trans (s3.trans (f3.trans s5)))⟩
    · have p : ((w3, z2) :: (u, y) :: (w2, o) :: (roots σ g3 ++ T)).Perm ((u, y) :: (w2, o) :: (w3, z2) :: (roots σ g3 ++ T)) := (List.Perm.swap _ _ _).trans (.cons _ (.swap _ _ _))
      refine ((r5.perm p).drop.drop).views fun p m => List.mem_append_right _ ?_
      rw [vsVs, vsVs]
      exact m
  | false =>
    refine iteF (kk _ H3 (fun t => ?_) (.ofTop a''.fit ?_))
    · obtain ⟨e1, f1⟩ := s (andL t)
      obtain ⟨e2, f2⟩ := s2 (andL (andR t))
      exact ⟨e2.trans e1, f1.trans (f2.trans s3)⟩
    · refine (r4.drop.data fun _ => .bl false).views fun p m => ?_
      rw [vsVs]
      rw [← Bool.and_assoc] at m
      exact vsL p m
end
end Z
namespace Lawk16
open PySem PySem.Spec L2 Z
noncomputable section
def g_is_name : M Fl := (retM (andV (chM ltF leF (dM (.int 0)) (opM lenF (consM (pkM 0) (M.ret []))) (dM (.int 5))) (andV (opM (inF true) (consM (pkM 0) (consM (M.ret (.gT [(.str "yes"), (.str "no"), (.str "not"), (.str "and"), (.str "or"), (.str "done"), (.str "then"), (.str "if"), (.str "while"), (.str "either"), (.str "often"), (.str "asks"), (.str "deeds"), (.str "keeps"), (.str "makes"), (.str "rests"), (.str "idles"), (.str "still"), (.str "never")])) (M.ret [])))) (opM allF (consM (compM [1] (M.bd (fzM 0) itemsM) (setM 1) yesM (opM (inF false) (consM (pkM 1) (consM (dM (.str "abcdefghijklmnopqrstuvwxyz")) (M.ret []))))) (M.ret []))))))
def f_is_name : Fn := runF 1 1 2 g_is_name
def f_asked_in : Nat → Fn
  | 0 => fun _ => .bad
  | n + 1 => runF 1 1 3 (seqM (ifM (tstM (opM eqF (consM (opM ixF (consM (pkM 0) (consM (dM (.int 0)) (M.ret [])))) (consM (dM (.str "ask")) (M.ret []))))) (retM (lstM (consM (opM ixF (consM (pkM 0) (consM (dM (.int 1)) (M.ret [])))) (M.ret [])))) (M.ret .next))
  (seqM (asgM (lstM (M.ret [])) (setM 1))
  (seqM (M.bd (M.bd (opM (slF true false) (consM (pkM 0) (consM (dM (.int 1)) (M.ret [])))) itemsM) (forM (setM 2) (dropM (extLM 1 (callM (f_asked_in n) [] (slIn 2 (M.ret [])))))))
  (retM (mvM 1)))))
def g_are_names : M Fl := (seqM (ifM (orZ (notZ (tstM (chM leF leF (fzM 1) (opM lenF (consM (pkM 0) (M.ret []))) (dM (.int 3))))) (tstM (opM ltF (consM (opM lsetF (consM (pkM 0) (M.ret []))) (consM (opM lenF (consM (pkM 0) (M.ret []))) (M.ret [])))))) (retM (dM (.bool false))) (M.ret .next))
  (retM (opM allF (consM (compM [2] (M.bd (fzM 0) itemsM) (setM 2) yesM (callM f_is_name [] (slIn 2 (M.ret [])))) (M.ret [])))))
def f_are_names : Fn := runF 2 2 3 g_are_names
def g_named_in : M Fl := (seqM (asgM (opM ixF (consM (pkM 0) (consM (dM (.int 0)) (M.ret [])))) (setM 1))
  (seqM (ifM (orZ (tstM (opM eqF (consM (pkM 1) (consM (dM (.str "keeps")) (M.ret []))))) (tstM (opM eqF (consM (pkM 1) (consM (dM (.str "makes")) (M.ret [])))))) (retM (tupM (consM (lstM (consM (opM ixF (consM (pkM 0) (consM (dM (.int 1)) (M.ret [])))) (M.ret []))) (consM (lstM (consM (opM ixF (consM (pkM 0) (consM (dM (.int 2)) (M.ret [])))) (M.ret []))) (M.ret []))))) (M.ret .next))
  (seqM (ifM (tstM (opM eqF (consM (pkM 1) (consM (dM (.str "rests")) (M.ret []))))) (retM (tupM (consM (lstM (consM (opM ixF (consM (pkM 0) (consM (dM (.int 1)) (M.ret [])))) (consM (opM ixF (consM (pkM 0) (consM (dM (.int 2)) (M.ret [])))) (M.ret [])))) (consM (lstM (M.ret [])) (M.ret []))))) (M.ret .next))
  (seqM (ifM (tstM (opM eqF (consM (pkM 1) (consM (dM (.str "idles")) (M.ret []))))) (retM (tupM (consM (lstM (consM (opM ixF (consM (pkM 0) (consM (dM (.int 3)) (M.ret [])))) (M.ret []))) (consM (lstM (consM (opM ixF (consM (pkM 0) (consM (dM (.int 1)) (M.ret [])))) (M.ret []))) (M.ret []))))) (M.ret .next))
  (seqM (ifM (tstM (opM eqF (consM (pkM 1) (consM (dM (.str "still")) (M.ret []))))) (retM (tupM (consM (lstM (consM (opM ixF (consM (pkM 0) (consM (dM (.int 1)) (M.ret [])))) (M.ret []))) (consM (lstM (M.ret [])) (M.ret []))))) (M.ret .next))
  (retM (tupM (consM (lstM (M.ret [])) (consM (callM (f_asked_in 14) [] (valA (opM ixF (consM (pkM 0) (consM (dM (.int 1)) (M.ret [])))) (M.ret []))) (M.ret []))))))))))
def f_named_in : Fn := runF 1 1 2 g_named_in
def g_is_of : M Fl := (seqM (asgM (frzM (callM f_named_in [] (slIn 1 (M.ret [])))) (tupG (consG 2 (consG 3 nilG))))
  (retM (andV (opM allF (consM (compM [4] (M.bd (fzM 2) itemsM) (setM 4) yesM (opM (inF false) (consM (pkM 4) (consM (opM ixF (consM (pkM 0) (consM (dM (.int 1)) (M.ret [])))) (M.ret []))))) (M.ret []))) (opM allF (consM (compM [5] (M.bd (fzM 3) itemsM) (setM 5) yesM (opM (inF false) (consM (pkM 5) (consM (opM ixF (consM (pkM 0) (consM (dM (.int 0)) (M.ret [])))) (M.ret []))))) (M.ret []))))))
def f_is_of : Fn := runF 2 2 6 g_is_of
def g_look_book : M Fl := (seqM (asgM (fzM 0) (tupG (consG 1 (consG 2 (consG 3 nilG)))))
  (seqM (ifM (notZ (tstM (callM f_are_names [] (slIn 1 (valA (dM (.int 0)) (M.ret [])))))) (raiM "NoBook" "word" (dM (.str "asks"))) (M.ret .next))
  (seqM (ifM (notZ (tstM (callM f_are_names [] (slIn 2 (valA (dM (.int 1)) (M.ret [])))))) (raiM "NoBook" "word" (dM (.str "deeds"))) (M.ret .next))
  (seqM (ifM (orZ (tstM (opM gtF (consM (opM lenF (consM (pkM 3) (M.ret []))) (consM (dM (.int 6)) (M.ret []))))) (notZ (tstM (opM allF (consM (compM [4] (M.bd (fzM 3) itemsM) (setM 4) yesM (callM f_is_of [] (slIn 0 (slIn 4 (M.ret []))))) (M.ret [])))))) (raiM "NoBook" "word" (dM (.str "fact"))) (M.ret .next))
  (retM (dM (.bool true)))))))
def f_look_book : Fn := runF 1 1 5 g_look_book
def g_law_is_name : M Fl := (seqM (asgM (lstM (consM (dM (.str "yes")) (consM (dM (.str "no")) (consM (dM (.str "not")) (consM (dM (.str "and")) (consM (dM (.str "or")) (consM (dM (.str "done")) (consM (dM (.str "then")) (consM (dM (.str "if")) (consM (dM (.str "while")) (consM (dM (.str "either")) (consM (dM (.str "often")) (consM (dM (.str "asks")) (consM (dM (.str "deeds")) (M.ret []))))))))))))))) (setM 1))
  (seqM (asgM (opM addF (consM (pkM 1) (consM (lstM (consM (dM (.str "keeps")) (consM (dM (.str "makes")) (consM (dM (.str "rests")) (consM (dM (.str "idles")) (consM (dM (.str "still")) (consM (dM (.str "never")) (M.ret [])))))))) (M.ret [])))) (setM 1))
  (retM (andV (chM ltF ltF (dM (.int 0)) (opM lenF (consM (pkM 0) (M.ret []))) (dM (.int 6))) (andV (opM (inF true) (consM (pkM 0) (consM (pkM 1) (M.ret [])))) (opM allF (consM (compM [2] (M.bd (fzM 0) itemsM) (setM 2) yesM (chM leSF leSF (dM (.str "a")) (fzM 2) (dM (.str "z")))) (M.ret []))))))))
def f_law_is_name : Fn := runF 1 1 3 g_law_is_name
def f_law_asked_in : Nat → Fn
  | 0 => fun _ => .bad
  | n + 1 => runF 1 1 3 (seqM (ifM (tstM (opM eqF (consM (opM ixF (consM (pkM 0) (consM (dM (.int 0)) (M.ret [])))) (consM (dM (.str "ask")) (M.ret []))))) (retM (lstM (consM (opM ixF (consM (pkM 0) (consM (dM (.int 1)) (M.ret [])))) (M.ret [])))) (M.ret .next))
  (seqM (asgM (lstM (M.ret [])) (setM 1))
  (seqM (M.bd (M.bd (opM (slF true false) (consM (pkM 0) (consM (dM (.int 1)) (M.ret [])))) itemsM) (forM (setM 2) (asgM (opM addF (consM (fzM 1) (consM (callM (f_law_asked_in n) [] (slIn 2 (M.ret []))) (M.ret [])))) (setM 1))))
  (retM (mvM 1)))))
def g_law_there : M Fl := (seqM (asgM (fzM 0) (tupG (consG 2 (consG 3 (consG 4 nilG)))))
  (seqM (asgM (opM ixF (consM (pkM 1) (consM (dM (.int 0)) (M.ret [])))) (setM 5))
  (seqM (ifM (tstM (opM eqF (consM (pkM 5) (consM (dM (.str "never")) (M.ret []))))) (retM (opM allF (consM (compM [6] (M.bd (callM (f_law_asked_in 14) [] (valA (opM ixF (consM (pkM 1) (consM (dM (.int 1)) (M.ret [])))) (M.ret []))) itemsM) (setM 6) yesM (opM (inF false) (consM (pkM 6) (consM (pkM 2) (M.ret []))))) (M.ret [])))) (M.ret .next))
  (seqM (ifM (tstM (opM eqF (consM (pkM 5) (consM (dM (.str "idles")) (M.ret []))))) (retM (andV (opM (inF false) (consM (opM ixF (consM (pkM 1) (consM (dM (.int 1)) (M.ret [])))) (consM (pkM 2) (M.ret [])))) (opM (inF false) (consM (opM ixF (consM (pkM 1) (consM (dM (.int 3)) (M.ret [])))) (consM (pkM 3) (M.ret [])))))) (M.ret .next))
  (seqM (ifM (tstM (opM eqF (consM (pkM 5) (consM (dM (.str "rests")) (M.ret []))))) (retM (andV (opM (inF false) (consM (opM ixF (consM (pkM 1) (consM (dM (.int 1)) (M.ret [])))) (consM (pkM 3) (M.ret [])))) (opM (inF false) (consM (opM ixF (consM (pkM 1) (consM (dM (.int 2)) (M.ret [])))) (consM (pkM 3) (M.ret [])))))) (M.ret .next))
  (retM (andV (opM (inF false) (consM (opM ixF (consM (pkM 1) (consM (dM (.int 1)) (M.ret [])))) (consM (pkM 3) (M.ret [])))) (orV (opM eqF (consM (pkM 5) (consM (dM (.str "still")) (M.ret [])))) (opM (inF false) (consM (opM ixF (consM (pkM 1) (consM (dM (.int 2)) (M.ret [])))) (consM (pkM 2) (M.ret []))))))))))))
def f_law_there : Fn := runF 2 2 7 g_law_there
def g_law_due : M Fl := (seqM (asgM (fzM 0) (tupG (consG 1 (consG 2 (consG 3 nilG)))))
  (seqM (M.bd (M.bd (tupM (consM (tupM (consM (dM (.str "asks")) (consM (fzM 1) (M.ret [])))) (consM (tupM (consM (dM (.str "deeds")) (consM (fzM 2) (M.ret [])))) (M.ret [])))) itemsM) (forM (tupG (consG 4 (consG 5 nilG))) (seqM (ifM (orZ (tstM (opM gtF (consM (opM lenF (consM (pkM 5) (M.ret []))) (consM (dM (.int 3)) (M.ret []))))) (orZ (andZ (tstM (opM eqF (consM (pkM 4) (consM (dM (.str "deeds")) (M.ret []))))) (tstM (opM eqF (consM (opM lenF (consM (pkM 5) (M.ret []))) (consM (dM (.int 0)) (M.ret [])))))) (tstM (opM ltF (consM (opM lsetF (consM (pkM 5) (M.ret []))) (consM (opM lenF (consM (pkM 5) (M.ret []))) (M.ret []))))))) (retM (mvM 4)) (M.ret .next))
  (ifM (notZ (tstM (opM allF (consM (compM [6] (M.bd (fzM 5) itemsM) (setM 6) yesM (callM f_law_is_name [] (slIn 6 (M.ret [])))) (M.ret []))))) (retM (mvM 4)) (M.ret .next)))))
  (seqM (ifM (orZ (tstM (opM gtF (consM (opM lenF (consM (pkM 3) (M.ret []))) (consM (dM (.int 6)) (M.ret []))))) (notZ (tstM (opM allF (consM (compM [7] (M.bd (fzM 3) itemsM) (setM 7) yesM (callM f_law_there [] (slIn 0 (slIn 7 (M.ret []))))) (M.ret [])))))) (retM (dM (.str "fact"))) (M.ret .next))
  (retM (dM .none)))))
def f_law_due : Fn := runF 1 1 8 g_law_due
def g_law_bad_name : M Fl := (seqM (asgM (opM addF (consM (dM (.str "abcdefghijklmnopqrstuvwxyzABCXYZ0189 _-(){|}~!/:;<=>?\x40[]^&*+,.#$")) (consM (dM (.str "\n")) (M.ret [])))) (setM 2))
  (seqM (asgM (joinM (dM (.str "")) (compM [6] (M.bd (consM (opM addF (consM (dM (.int 1)) (consM (callM G.f_law_take [] (slIn 0 (valA (dM (.int 6)) (M.ret [])))) (M.ret [])))) (M.ret [])) rng1M) (setM 6) yesM (opM ixF (consM (dM (.str "abcdefghijklmnopqrstuvwxyz")) (consM (callM G.f_law_take [] (slIn 0 (valA (dM (.int 26)) (M.ret [])))) (M.ret [])))))) (setM 3))
  (seqM (asgM (callM G.f_law_take [] (slIn 0 (valA (dM (.int 6)) (M.ret [])))) (setM 4))
  (seqM (ifM (tstM (opM eqF (consM (pkM 4) (consM (dM (.int 0)) (M.ret []))))) (seqM (asgM (callM G.f_law_take [] (slIn 0 (valA (opM lenF (consM (pkM 3) (M.ret []))) (M.ret [])))) (setM 5))
  (retM (opM addF (consM (opM addF (consM (opM (slF false true) (consM (pkM 3) (consM (pkM 5) (M.ret [])))) (consM (opM ixF (consM (fzM 2) (consM (callM G.f_law_take [] (slIn 0 (valA (opM lenF (consM (pkM 2) (M.ret []))) (M.ret [])))) (M.ret [])))) (M.ret [])))) (consM (opM (slF true false) (consM (pkM 3) (consM (opM addF (consM (pkM 5) (consM (dM (.int 1)) (M.ret [])))) (M.ret [])))) (M.ret [])))))) (M.ret .next))
  (seqM (ifM (tstM (opM eqF (consM (pkM 4) (consM (dM (.int 1)) (M.ret []))))) (retM (opM ixF (consM (lstM (consM (dM (.str "")) (consM (dM (.str "yes")) (consM (dM (.str "no")) (consM (dM (.str "not")) (consM (dM (.str "and")) (consM (dM (.str "or")) (consM (dM (.str "done")) (consM (dM (.str "then")) (consM (dM (.str "if")) (consM (dM (.str "while")) (consM (dM (.str "either")) (consM (dM (.str "often")) (consM (dM (.str "asks")) (consM (dM (.str "deeds")) (consM (dM (.str "keeps")) (consM (dM (.str "makes")) (consM (dM (.str "rests")) (consM (dM (.str "idles")) (consM (dM (.str "still")) (consM (dM (.str "never")) (M.ret [])))))))))))))))))))))) (consM (callM G.f_law_take [] (slIn 0 (valA (dM (.int 20)) (M.ret [])))) (M.ret []))))) (M.ret .next))
  (seqM (ifM (andZ (tstM (opM eqF (consM (pkM 4) (consM (dM (.int 2)) (M.ret []))))) (tstM (opM gtF (consM (opM lenF (consM (pkM 1) (M.ret []))) (consM (dM (.int 0)) (M.ret [])))))) (retM (opM ixF (consM (fzM 1) (consM (callM G.f_law_take [] (slIn 0 (valA (opM lenF (consM (pkM 1) (M.ret []))) (M.ret [])))) (M.ret []))))) (M.ret .next))
  (retM (mvM 3))))))))
def f_law_bad_name : Fn := runF 2 2 7 g_law_bad_name
def g_law_row_otherwise : M Fl := (seqM (asgM (callM G.f_law_take [] (slIn 0 (valA (opM addF (consM (opM lenF (consM (pkM 1) (M.ret []))) (consM (dM (.int 1)) (M.ret [])))) (M.ret [])))) (setM 2))
  (seqM (asgM (callM G.f_law_take [] (slIn 0 (valA (dM (.int 4)) (M.ret [])))) (setM 3))
  (seqM (ifM (tstM (opM eqF (consM (pkM 3) (consM (dM (.int 0)) (M.ret []))))) (retM (opM addF (consM (opM (slF false true) (consM (pkM 1) (consM (pkM 2) (M.ret [])))) (consM (opM (slF true false) (consM (pkM 1) (consM (opM addF (consM (pkM 2) (consM (dM (.int 1)) (M.ret [])))) (M.ret [])))) (M.ret []))))) (M.ret .next))
  (seqM (ifM (tstM (opM eqF (consM (pkM 3) (consM (dM (.int 1)) (M.ret []))))) (retM (opM addF (consM (opM addF (consM (opM (slF false true) (consM (pkM 1) (consM (pkM 2) (M.ret [])))) (consM (tupM (consM (callM f_law_bad_name [] (slIn 0 (slIn 1 (M.ret [])))) (M.ret []))) (M.ret [])))) (consM (opM (slF true false) (consM (pkM 1) (consM (pkM 2) (M.ret [])))) (M.ret []))))) (M.ret .next))
  (seqM (ifM (tstM (opM eqF (consM (pkM 3) (consM (dM (.int 2)) (M.ret []))))) (retM (opM addF (consM (opM addF (consM (opM (slF false true) (consM (pkM 1) (consM (pkM 2) (M.ret [])))) (consM (tupM (consM (callM f_law_bad_name [] (slIn 0 (slIn 1 (M.ret [])))) (M.ret []))) (M.ret [])))) (consM (opM (slF true false) (consM (pkM 1) (consM (opM addF (consM (pkM 2) (consM (dM (.int 1)) (M.ret [])))) (M.ret [])))) (M.ret []))))) (M.ret .next))
  (retM (opM (slF false true) (consM (fzM 1) (consM (callM G.f_law_take [] (slIn 0 (valA (dM (.int 2)) (M.ret [])))) (M.ret []))))))))))
def f_law_row_otherwise : Fn := runF 2 2 4 g_law_row_otherwise
def g_law_otherwise : M Fl := (seqM (asgM (fzM 1) (tupG (consG 2 (consG 3 (consG 4 nilG)))))
  (seqM (asgM (callM G.f_law_take [] (slIn 0 (valA (dM (.int 6)) (M.ret [])))) (setM 5))
  (seqM (ifM (tstM (opM eqF (consM (pkM 5) (consM (dM (.int 0)) (M.ret []))))) (retM (tupM (consM (callM f_law_row_otherwise [] (slIn 0 (slIn 2 (M.ret [])))) (consM (fzM 3) (consM (fzM 4) (M.ret [])))))) (M.ret .next))
  (seqM (ifM (tstM (opM eqF (consM (pkM 5) (consM (dM (.int 1)) (M.ret []))))) (retM (tupM (consM (fzM 2) (consM (callM f_law_row_otherwise [] (slIn 0 (slIn 3 (M.ret [])))) (consM (fzM 4) (M.ret [])))))) (M.ret .next))
  (seqM (asgM (callM G.f_law_take [] (slIn 0 (valA (opM addF (consM (opM lenF (consM (pkM 4) (M.ret []))) (consM (dM (.int 1)) (M.ret [])))) (M.ret [])))) (setM 6))
  (seqM (asgM (compM [9] (M.bd (consM (opM ixF (consM (lstM (consM (dM (.int 1)) (consM (dM (.int 1)) (consM (dM (.int 8)) (M.ret []))))) (consM (callM G.f_law_take [] (slIn 0 (valA (dM (.int 3)) (M.ret [])))) (M.ret [])))) (M.ret [])) rng1M) (setM 9) yesM (callM G.f_law_fact [] (slIn 0 (slIn 2 (valA (opM addF (consM (pkM 3) (consM (tupM (consM (dM (.str "zzzzz")) (M.ret []))) (M.ret [])))) (M.ret [])))))) (setM 7))
  (seqM (ifM (tstM (opM gtF (consM (pkM 5) (consM (dM (.int 3)) (M.ret []))))) (seqM (asgM (tupM (consM (opM addF (consM (opM addF (consM (pkM 2) (consM (tupM (consM (dM (.str "zzzzz")) (M.ret []))) (M.ret [])))) (consM (opM (slF false true) (consM (pkM 3) (consM (dM (.int 1)) (M.ret [])))) (M.ret [])))) (consM (opM addF (consM (opM addF (consM (pkM 3) (consM (tupM (consM (dM (.str "yyyyy")) (M.ret []))) (M.ret [])))) (consM (opM (slF false true) (consM (pkM 2) (consM (dM (.int 1)) (M.ret [])))) (M.ret [])))) (M.ret [])))) (setM 8))
  (asgM (compM [10] (M.bd (fzM 7) itemsM) (setM 10) yesM (callM G.f_law_fact [] (slIn 0 (valA (opM ixF (consM (pkM 8) (consM (dM (.int 0)) (M.ret [])))) (valA (opM ixF (consM (pkM 8) (consM (dM (.int 1)) (M.ret [])))) (M.ret [])))))) (setM 7))) (M.ret .next))
  (seqM (asgM (opM addF (consM (opM addF (consM (opM (slF false true) (consM (pkM 4) (consM (pkM 6) (M.ret [])))) (consM (opM tupF (consM (pkM 7) (M.ret []))) (M.ret [])))) (consM (opM (slF true false) (consM (fzM 4) (consM (opM addF (consM (fzM 6) (consM (callM G.f_law_take [] (slIn 0 (valA (dM (.int 2)) (M.ret [])))) (M.ret [])))) (M.ret [])))) (M.ret [])))) (setM 4))
  (retM (tupM (consM (fzM 2) (consM (fzM 3) (consM (opM (slF false true) (consM (pkM 4) (consM (dM (.int 8)) (M.ret [])))) (M.ret []))))))))))))))
def f_law_otherwise : Fn := runF 2 2 11 g_law_otherwise
def g_law_told : M Fl := (seqM (asgM (dM .none) (setM 1))
  (seqM (tryM ["NoBook"] 2 (ifM (tstM (opM (isBF false) (consM (callM f_look_book [] (slIn 0 (M.ret []))) (consM (dM (.bool true)) (M.ret []))))) (retM (dM (.str "let by"))) (M.ret .next)) (asgM (cpM (pkM 2)) (setM 1)))
  (seqM (ifM (orZ (notZ (tstM (isxM [("NoBook", true)] (pkM 1)))) (tstM (isxM [("NoBook", false)] (pkM 1)))) (retM (dM (.str "else"))) (M.ret .next))
  (retM (xfM ["NoBook"] "word" (pkM 1))))))
def f_law_told : Fn := runF 1 1 3 g_law_told
def g_law : M Fl := (seqM (asgM (callM G.f_law_book [] (valA (callM G.f_law_box [] (slIn 0 (valA (dM (.int 0)) (M.ret [])))) (M.ret []))) (setM 1))
  (seqM (M.bd (M.bd (consM (dM (.int 1)) (consM (opM max2F (consM (dM (.int 5)) (consM (opM min2F (consM (dM (.int 9)) (consM (opM lenF (consM (pkM 0) (M.ret []))) (M.ret [])))) (M.ret [])))) (M.ret []))) rng2M) (forM (setM 2) (seqM (asgM (callM G.f_law_box [] (slIn 0 (slIn 2 (M.ret [])))) (setM 3))
  (seqM (asgM (callM f_law_otherwise [] (slIn 3 (slIn 1 (M.ret [])))) (setM 4))
  (seqM (ifM (andZ (tstM (opM eqF (consM (callM G.f_law_take [] (slIn 3 (valA (dM (.int 3)) (M.ret [])))) (consM (dM (.int 0)) (M.ret []))))) (tstM (opM gtF (consM (opM lenF (consM (opM ixF (consM (pkM 4) (consM (dM (.int 1)) (M.ret [])))) (M.ret []))) (consM (dM (.int 0)) (M.ret [])))))) (asgM (callM f_law_otherwise [] (slIn 3 (slIn 4 (M.ret [])))) (setM 4)) (M.ret .next))
  (seqM (asgM (callM f_law_due [] (slIn 4 (M.ret []))) (setM 5))
  (ifM (orZ (tstM (opM neF (consM (callM f_law_told [] (slIn 4 (M.ret []))) (consM (opM ixF (consM (lstM (consM (rdM 5) (consM (dM (.str "let by")) (M.ret [])))) (consM (opM intF (consM (opM (isNF false) (consM (pkM 5) (consM (dM .none) (M.ret [])))) (M.ret []))) (M.ret [])))) (M.ret []))))) (tstM (opM neF (consM (callM f_law_told [] (slIn 1 (M.ret []))) (consM (dM (.str "let by")) (M.ret [])))))) (retM (dM (.bool false))) (M.ret .next))))))))
  (retM (dM (.bool true)))))
def f_law : Fn := runF 1 1 6 g_law
end
end Lawk16
namespace Lawk16
open PySem PySem.Spec L2 Z
def topS (i : Nat) : Stmt := PySem.Challenge.pw_unsaidways_k16_books_let_by_and_refused.main.body.getD i (.Pass ⟨0, 0, 0, 0⟩)
/-- what the module's names hold -/
structure Nm (K : PySem.W.Frag) (mg : Str → Option Value) : Prop where
  m_all : mg "all" = none
  m_dict : mg "dict" = none
  m_int : mg "int" = none
  m_isinstance : mg "isinstance" = none
  m_len : mg "len" = none
  m_max : mg "max" = none
  m_min : mg "min" = none
  m_range : mg "range" = none
  m_set : mg "set" = none
  m_sorted : mg "sorted" = none
  m_tuple : mg "tuple" = none
  h_LETTERS : ∀ (X : Cx) (W : WX) (pos : Pos), X.K = K → X.mg = mg → Gl X "LETTERS" → Ev X W true (.Name "LETTERS" pos) (dM (.str "abcdefghijklmnopqrstuvwxyz"))
  h_LONGEST : ∀ (X : Cx) (W : WX) (pos : Pos), X.K = K → X.mg = mg → Gl X "LONGEST" → Ev X W true (.Name "LONGEST" pos) (dM (.int 5))
  h_MOST : ∀ (X : Cx) (W : WX) (pos : Pos), X.K = K → X.mg = mg → Gl X "MOST" → Ev X W true (.Name "MOST" pos) (dM (.int 3))
  h_MOST_FACTS : ∀ (X : Cx) (W : WX) (pos : Pos), X.K = K → X.mg = mg → Gl X "MOST_FACTS" → Ev X W true (.Name "MOST_FACTS" pos) (dM (.int 6))
  h_TAKEN : ∀ (X : Cx) (W : WX) (pos : Pos), X.K = K → X.mg = mg → Gl X "TAKEN" → Ev X W true (.Name "TAKEN" pos) (M.ret (.gT [(.str "yes"), (.str "no"), (.str "not"), (.str "and"), (.str "or"), (.str "done"), (.str "then"), (.str "if"), (.str "while"), (.str "either"), (.str "often"), (.str "asks"), (.str "deeds"), (.str "keeps"), (.str "makes"), (.str "rests"), (.str "idles"), (.str "still"), (.str "never")]))
  xf_word : Xfs K mg "word" ["NoBook"]
  is_BadText_NoErrand_NoRow_NoWay_NoWorld_TooMany : Isx K mg ["BadText", "NoErrand", "NoRow", "NoWay", "NoWorld", "TooMany"] [("NoBook", false)]
  is_NoBook : Isx K mg ["NoBook"] [("NoBook", true)]
  hd_WayError : Hnd K mg "WayError" ["NoBook"]
  xb_WayError : XBase K mg "WayError"
theorem sc_NoBook_init : FnScope ["self", "word"] ["self", "word"] (defScope (inClass (topS 3) 0)) := ⟨rfl, rfl, rfl, by decide +kernel, rfl, by decide +kernel, by decide +kernel⟩
theorem ok_NoBook_init {P : Program} {w : World} {K : PySem.W.Frag} {mg : Str → Option Value} {base : Heap} (B : Nm K mg) {a : Addr} {fd : FuncData} (F : Fun K "__init__" "NoBook.__init__" (inClass (topS 3) 0) a fd) : FnOk P w K mg base (L2.CX P w) 1 a fd ["self", "word"] (spI K "word") := by
  obtain ⟨CB, mc, hm, rd, vV⟩ := B.xb_WayError.ex
  exact initRule F sc_NoBook_init rfl fun cdv A outer s H E e C v T hno => ⟨_, pss_cons (ps_expr (pe_beinit (by rfl) hm rd vV (pa_cons (pv 0 rfl (by first | exact Or.inl rfl | exact Or.inr (Or.inl rfl) | exact Or.inr (Or.inr rfl)) (by decide) (by decide)) (pa_cons (pv 1 rfl (by first | exact Or.inl rfl | exact Or.inr (Or.inl rfl) | exact Or.inr (Or.inr rfl)) (by decide) (by decide)) pa_nil)))) (pss_one (ps_ost (pv 0 rfl (by first | exact Or.inl rfl | exact Or.inr (Or.inl rfl) | exact Or.inr (Or.inr rfl)) (by decide) (by decide)) (pv 1 rfl (by first | exact Or.inl rfl | exact Or.inr (Or.inl rfl) | exact Or.inr (Or.inr rfl)) (by decide) (by decide)))),
    fun D σ h0 h1 ha q => ⟨.ref e, h0, v, h1, e, C, [v], rfl, by simp, T, ha, v, h1, .ref e, h0, e, C, rfl, T, hno, .inl ⟨ha, q⟩⟩⟩
theorem sc_is_name : FnScope ["text", "sign"] ["text"] (defScope (topS 13)) := ⟨rfl, rfl, rfl, by decide +kernel, rfl, by decide +kernel, by decide +kernel⟩
theorem ok_is_name {P : Program} {w : World} {K : PySem.W.Frag} {mg : Str → Option Value} {base : Heap} (B : Nm K mg) {a : Addr} {fd : FuncData} (F : Fun K "is_name" "is_name" (topS 13) a fd) :
    FnG P w K mg base (L2.CX P w) 1 a fd ["text"] (spF K mg 1 f_is_name) :=
  fnRule 1 F sc_is_name (by decide) fun cdv A outer s H E c =>
    (ess_one (es_ret (ev_and (ev_chain op_lt op_le pr_lt pr_le ev_int (ev_bi call_len pr_len B.m_len boot_len_ (eas_p (ep_pk 0) eas_nil)) (B.h_LONGEST _ _ _ (by rfl) (by rfl) (by rfl)) rfl) (ev_and (ev_cmp op_notIn2 pr_in (eas_p (ep_pk 0) (eas_p (B.h_TAKEN _ _ _ (by rfl) (by rfl) (by rfl)).p eas_nil)) rfl) (ev_one (ev_bi (cr_all c.calm) pr_all B.m_all boot_all_ (eas_p (ev_comp c (own := [("sign", 1)]) (ei_seq (ev_fz 0)) (blkOk_by (by kernel_rfl)) (fun bi => (eb_name 1 (by decide) (c.blk _ bi).nd rfl (by first | exact Or.inl rfl | exact Or.inr rfl))) (fun bi => ec_yes) (fun bi => (ev_cmp op_in2 pr_in (eas_p (ep_pk 1) (eas_p (B.h_LETTERS _ _ _ (by rfl) (by rfl) (by rfl)).p eas_nil)) rfl))).1.p eas_nil)))))))
theorem sc_asked_in : FnScope ["test", "found", "part"] ["test"] (defScope (topS 17)) := ⟨rfl, rfl, rfl, by decide +kernel, rfl, by decide +kernel, by decide +kernel⟩
theorem ok_asked_in {P : Program} {w : World} {K : PySem.W.Frag} {mg : Str → Option Value} {base : Heap} (B : Nm K mg) {a : Addr} {fd : FuncData} (F : Fun K "asked_in" "asked_in" (topS 17) a fd) (mn : mg "asked_in" = some (.ref a)) (kp : PySem.W.keepIn K (.ref a) = true) (bd : L2.Binds K fd ["test"] []) : ∀ n : Nat,
    FnG P w K mg base (L2.CX P w) (0 + n) a fd ["test"] (spF K mg 1 (f_asked_in n))
  | 0 => fnBad rfl
  | n + 1 => by
    have C_asked_in : Callee P w K mg base "asked_in" (0 + n) 1 [] (f_asked_in n) := ⟨_, _, _, [], [], ok_asked_in B F mn kp bd n, mn, kp, bd, .nil, fun _ => .nil⟩
    exact fnRule (k := 0 + n) 1 F sc_asked_in (by decide) fun cdv A outer s H E c =>
    (ess_cons (es_if (et_cmp (op_eq2 c.hr.units) pr_eq (eas_p (ev_ix ix_seq pr_ix (eas_p (ep_pk 0) (eas_p ev_int.p eas_nil))).p (eas_p ev_str.p eas_nil)) (nomark _)) (ess_one (es_ret (ev_lst (ees_cons (ev_ix ix_seq pr_ix (eas_p (ep_pk 0) (eas_p ev_int.p eas_nil))) ees_nil)))) ess_nil)
    (ess_cons (es_set 1 (by decide) c.nd rfl (by first | exact Or.inl rfl | exact Or.inr rfl) (ev_lst ees_nil))
    (ess_cons (es_for c (ei_seq (ev_slLo (eas_p (ep_pk 0) (eas_p ev_int.p eas_nil)))) (eg_name 2 (by decide) c.nd rfl (by first | exact Or.inl rfl | exact Or.inr rfl)) (ess_one (es_expr (ev_ext 1 (ev_call c C_asked_in (by omega) (by rfl) (eu_sl 2 eu_nil))))))
    (ess_one (es_ret (ev_mv 1))))))
theorem sc_are_names : FnScope ["words", "least", "word"] ["words", "least"] (defScope (topS 18)) := ⟨rfl, rfl, rfl, by decide +kernel, rfl, by decide +kernel, by decide +kernel⟩
theorem ok_are_names {P : Program} {w : World} {K : PySem.W.Frag} {mg : Str → Option Value} {base : Heap} (B : Nm K mg) (C_is_name : Callee P w K mg base "is_name" 1 1 [] f_is_name) {a : Addr} {fd : FuncData} (F : Fun K "are_names" "are_names" (topS 18) a fd) :
    FnG P w K mg base (L2.CX P w) 2 a fd ["words", "least"] (spF K mg 2 f_are_names) :=
  fnRule 2 F sc_are_names (by decide) fun cdv A outer s H E c =>
    (ess_cons (es_if (ew_or (et_not (et_chain op_le op_le pr_le pr_le (ev_fz 1) (ev_bi call_len pr_len B.m_len boot_len_ (eas_p (ep_pk 0) eas_nil)) (B.h_MOST _ _ _ (by rfl) (by rfl) (by rfl)) rfl)) (ew_or1 (et_cmp op_lt pr_lt (eas_p (ev_lenSetT c.calm (ep_pk 0) B.m_len B.m_set).p (eas_p (ev_bi call_len pr_len B.m_len boot_len_ (eas_p (ep_pk 0) eas_nil)).p eas_nil)) (nomark _)))).t (ess_one (es_ret ev_bl)) ess_nil)
    (ess_one (es_ret (ev_bi (cr_all c.calm) pr_all B.m_all boot_all_ (eas_p (ev_comp c (own := [("word", 2)]) (ei_seq (ev_fz 0)) (blkOk_by (by kernel_rfl)) (fun bi => (eb_name 2 (by decide) (c.blk _ bi).nd rfl (by first | exact Or.inl rfl | exact Or.inr rfl))) (fun bi => ec_yes) (fun bi => (ev_call (c.blk _ bi) C_is_name (by omega) (by rfl) (eu_sl 2 eu_nil)))).1.p eas_nil)))))
theorem sc_named_in : FnScope ["fact", "word"] ["fact"] (defScope (topS 19)) := ⟨rfl, rfl, rfl, by decide +kernel, rfl, by decide +kernel, by decide +kernel⟩
theorem ok_named_in {P : Program} {w : World} {K : PySem.W.Frag} {mg : Str → Option Value} {base : Heap} (B : Nm K mg) (C_asked_in : Callee P w K mg base "asked_in" 14 1 [] (f_asked_in 14)) {a : Addr} {fd : FuncData} (F : Fun K "named_in" "named_in" (topS 19) a fd) :
    FnG P w K mg base (L2.CX P w) 15 a fd ["fact"] (spF K mg 1 f_named_in) :=
  fnRule 1 F sc_named_in (by decide) fun cdv A outer s H E c =>
    (ess_cons (es_set 1 (by decide) c.nd rfl (by first | exact Or.inl rfl | exact Or.inr rfl) (ev_ix ix_seq pr_ix (eas_p (ep_pk 0) (eas_p ev_int.p eas_nil))))
    (ess_cons (es_if (ew_or (et_cmp (op_eq2 c.hr.units) pr_eq (eas_p (ep_pk 1) (eas_p ev_str.p eas_nil)) (nomark _)) (ew_or1 (et_cmp (op_eq2 c.hr.units) pr_eq (eas_p (ep_pk 1) (eas_p ev_str.p eas_nil)) (nomark _)))).t (ess_one (es_ret (ev_tup (ees_cons (ev_lst (ees_cons (ev_ix ix_seq pr_ix (eas_p (ep_pk 0) (eas_p ev_int.p eas_nil))) ees_nil)) (ees_cons (ev_lst (ees_cons (ev_ix ix_seq pr_ix (eas_p (ep_pk 0) (eas_p ev_int.p eas_nil))) ees_nil)) ees_nil))))) ess_nil)
    (ess_cons (es_if (et_cmp (op_eq2 c.hr.units) pr_eq (eas_p (ep_pk 1) (eas_p ev_str.p eas_nil)) (nomark _)) (ess_one (es_ret (ev_tup (ees_cons (ev_lst (ees_cons (ev_ix ix_seq pr_ix (eas_p (ep_pk 0) (eas_p ev_int.p eas_nil))) (ees_cons (ev_ix ix_seq pr_ix (eas_p (ep_pk 0) (eas_p ev_int.p eas_nil))) ees_nil))) (ees_cons (ev_lst ees_nil) ees_nil))))) ess_nil)
    (ess_cons (es_if (et_cmp (op_eq2 c.hr.units) pr_eq (eas_p (ep_pk 1) (eas_p ev_str.p eas_nil)) (nomark _)) (ess_one (es_ret (ev_tup (ees_cons (ev_lst (ees_cons (ev_ix ix_seq pr_ix (eas_p (ep_pk 0) (eas_p ev_int.p eas_nil))) ees_nil)) (ees_cons (ev_lst (ees_cons (ev_ix ix_seq pr_ix (eas_p (ep_pk 0) (eas_p ev_int.p eas_nil))) ees_nil)) ees_nil))))) ess_nil)
    (ess_cons (es_if (et_cmp (op_eq2 c.hr.units) pr_eq (eas_p (ep_pk 1) (eas_p ev_str.p eas_nil)) (nomark _)) (ess_one (es_ret (ev_tup (ees_cons (ev_lst (ees_cons (ev_ix ix_seq pr_ix (eas_p (ep_pk 0) (eas_p ev_int.p eas_nil))) ees_nil)) (ees_cons (ev_lst ees_nil) ees_nil))))) ess_nil)
    (ess_one (es_ret (ev_tup (ees_cons (ev_lst ees_nil) (ees_cons (ev_call c C_asked_in (by omega) (by rfl) (eu_val (ev_ix ix_seq pr_ix (eas_p (ep_pk 0) (eas_p ev_int.p eas_nil))) eu_nil)) ees_nil))))))))))
theorem sc_is_of : FnScope ["book", "fact", "deeds", "asks", "p", "q"] ["book", "fact"] (defScope (topS 20)) := ⟨rfl, rfl, rfl, by decide +kernel, rfl, by decide +kernel, by decide +kernel⟩
theorem ok_is_of {P : Program} {w : World} {K : PySem.W.Frag} {mg : Str → Option Value} {base : Heap} (B : Nm K mg) (C_named_in : Callee P w K mg base "named_in" 15 1 [] f_named_in) {a : Addr} {fd : FuncData} (F : Fun K "is_of" "is_of" (topS 20) a fd) :
    FnG P w K mg base (L2.CX P w) 16 a fd ["book", "fact"] (spF K mg 2 f_is_of) :=
  fnRule 2 F sc_is_of (by decide) fun cdv A outer s H E c =>
    (ess_cons (es_asg (ev_frz (ev_call c C_named_in (by omega) (by rfl) (eu_sl 1 eu_nil))) (eg_tup c.calm (egs_cons 2 (by decide) c.nd rfl (by first | exact Or.inl rfl | exact Or.inr rfl) (egs_cons 3 (by decide) c.nd rfl (by first | exact Or.inl rfl | exact Or.inr rfl) egs_nil)) rfl rfl (cg_cons (cg_cons cg_nil))))
    (ess_one (es_ret (ev_and (ev_bi (cr_all c.calm) pr_all B.m_all boot_all_ (eas_p (ev_comp c (own := [("p", 4)]) (ei_seq (ev_fz 2)) (blkOk_by (by kernel_rfl)) (fun bi => (eb_name 4 (by decide) (c.blk _ bi).nd rfl (by first | exact Or.inl rfl | exact Or.inr rfl))) (fun bi => ec_yes) (fun bi => (ev_cmp op_in2 pr_in (eas_p (ep_pk 4) (eas_p (ev_ix ix_seq pr_ix (eas_p (ep_pk 0) (eas_p ev_int.p eas_nil))).p eas_nil)) rfl))).1.p eas_nil)) (ev_one (ev_bi (cr_all c.calm) pr_all B.m_all boot_all_ (eas_p (ev_comp c (own := [("q", 5)]) (ei_seq (ev_fz 3)) (blkOk_by (by kernel_rfl)) (fun bi => (eb_name 5 (by decide) (c.blk _ bi).nd rfl (by first | exact Or.inl rfl | exact Or.inr rfl))) (fun bi => ec_yes) (fun bi => (ev_cmp op_in2 pr_in (eas_p (ep_pk 5) (eas_p (ev_ix ix_seq pr_ix (eas_p (ep_pk 0) (eas_p ev_int.p eas_nil))).p eas_nil)) rfl))).1.p eas_nil)))))))
theorem sc_look_book : FnScope ["book", "asks", "deeds", "facts", "fact"] ["book"] (defScope (topS 21)) := ⟨rfl, rfl, rfl, by decide +kernel, rfl, by decide +kernel, by decide +kernel⟩
theorem ok_look_book {P : Program} {w : World} {K : PySem.W.Frag} {mg : Str → Option Value} {base : Heap} (B : Nm K mg) (C_is_of : Callee P w K mg base "is_of" 16 2 [] f_is_of) (C_NoBook_init : XMak P w K mg base "NoBook" "word") (C_are_names : Callee P w K mg base "are_names" 2 2 [] f_are_names) {a : Addr} {fd : FuncData} (F : Fun K "look_book" "look_book" (topS 21) a fd) :
    FnG P w K mg base (L2.CX P w) 17 a fd ["book"] (spF K mg 1 f_look_book) :=
  fnRule 1 F sc_look_book (by decide) fun cdv A outer s H E c =>
    (ess_cons (es_asg (ev_fz 0) (eg_tup c.calm (egs_cons 1 (by decide) c.nd rfl (by first | exact Or.inl rfl | exact Or.inr rfl) (egs_cons 2 (by decide) c.nd rfl (by first | exact Or.inl rfl | exact Or.inr rfl) (egs_cons 3 (by decide) c.nd rfl (by first | exact Or.inl rfl | exact Or.inr rfl) egs_nil))) rfl rfl (cg_cons (cg_cons (cg_cons cg_nil)))))
    (ess_cons (es_if (et_not (et_val (ev_call c C_are_names (by omega) (by rfl) (eu_sl 1 (eu_val ev_int eu_nil))))) (ess_one (es_raise1 c C_NoBook_init (by omega) ev_str)) ess_nil)
    (ess_cons (es_if (et_not (et_val (ev_call c C_are_names (by omega) (by rfl) (eu_sl 2 (eu_val ev_int eu_nil))))) (ess_one (es_raise1 c C_NoBook_init (by omega) ev_str)) ess_nil)
    (ess_cons (es_if (ew_or (et_cmp op_gt pr_gt (eas_p (ev_bi call_len pr_len B.m_len boot_len_ (eas_p (ep_pk 3) eas_nil)).p (eas_p (B.h_MOST_FACTS _ _ _ (by rfl) (by rfl) (by rfl)).p eas_nil)) (nomark _)) (ew_or1 (et_not (et_val (ev_bi (cr_all c.calm) pr_all B.m_all boot_all_ (eas_p (ev_comp c (own := [("fact", 4)]) (ei_seq (ev_fz 3)) (blkOk_by (by kernel_rfl)) (fun bi => (eb_name 4 (by decide) (c.blk _ bi).nd rfl (by first | exact Or.inl rfl | exact Or.inr rfl))) (fun bi => ec_yes) (fun bi => (ev_call (c.blk _ bi) C_is_of (by omega) (by rfl) (eu_sl 0 (eu_sl 4 eu_nil))))).1.p eas_nil)))))).t (ess_one (es_raise1 c C_NoBook_init (by omega) ev_str)) ess_nil)
    (ess_one (es_ret ev_bl))))))
theorem sc_law_box : FnScope ["_law_script", "_law_k", "_law_cell", "_law_seed"] ["_law_script", "_law_k"] (defScope (topS 23)) := ⟨rfl, rfl, rfl, by decide +kernel, rfl, by decide +kernel, by decide +kernel⟩
theorem ok_law_box {P : Program} {w : World} {K : PySem.W.Frag} {mg : Str → Option Value} {base : Heap} (B : Nm K mg) {a : Addr} {fd : FuncData} (F : Fun K "_law_box" "_law_box" (topS 23) a fd) :
    FnG P w K mg base (L2.CX P w) 1 a fd ["_law_script", "_law_k"] (spF K mg 2 G.f_law_box) :=
  fnRule 2 F sc_law_box (by decide) fun cdv A outer s H E c =>
    (ess_cons (es_set 2 (by decide) c.nd rfl (by first | exact Or.inl rfl | exact Or.inr rfl) (ev_op op_add4 pr_add (eas_p (ev_op op_mul pr_mul (eas_p ev_int.p (eas_p (ep_pk 1) eas_nil))).p (eas_p ev_int.p eas_nil))))
    (ess_cons (es_if (et_cmp op_lt pr_lt (eas_p (ep_pk 1) (eas_p (ev_bi call_len pr_len B.m_len boot_len_ (eas_p (ep_pk 0) eas_nil)).p eas_nil)) (nomark _)) (ess_one (es_set 2 (by decide) c.nd rfl (by first | exact Or.inl rfl | exact Or.inr rfl) (ev_ix ix_seq pr_ix (eas_p (ep_pk 0) (eas_p (ep_pk 1) eas_nil))))) (ess_one (es_if (et_cmp op_gt pr_gt (eas_p (ev_bi call_len pr_len B.m_len boot_len_ (eas_p (ep_pk 0) eas_nil)).p (eas_p ev_int.p eas_nil)) (nomark _)) (ess_one (es_set 2 (by decide) c.nd rfl (by first | exact Or.inl rfl | exact Or.inr rfl) (ev_op op_add4 pr_add (eas_p (ep_pk 2) (eas_p (ev_op op_mul pr_mul (eas_p (ev_op op_mod pr_mod (eas_p (ev_ix ix_seq pr_ix (eas_p (ep_pk 0) (eas_p (ev_op op_mod pr_mod (eas_p (ep_pk 1) (eas_p (ev_bi call_len pr_len B.m_len boot_len_ (eas_p (ep_pk 0) eas_nil)).p eas_nil))).p eas_nil))).p (eas_p ev_int.p eas_nil))).p (eas_p ev_int.p eas_nil))).p eas_nil))))) ess_nil)))
    (ess_cons (es_set 3 (by decide) c.nd rfl (by first | exact Or.inl rfl | exact Or.inr rfl) (ev_op op_add4 pr_add (eas_p (ev_op op_mod pr_mod (eas_p (ev_op op_add4 pr_add (eas_p (ev_op op_mul pr_mul (eas_p (ev_op op_mod pr_mod (eas_p (ep_pk 2) (eas_p ev_int.p eas_nil))).p (eas_p ev_int.p eas_nil))).p (eas_p (ev_op op_mul pr_mul (eas_p ev_int.p (eas_p (ep_pk 1) eas_nil))).p eas_nil))).p (eas_p ev_int.p eas_nil))).p (eas_p ev_int.p eas_nil))))
    (ess_cons (es_if (et_cmp op_lt pr_lt (eas_p (ep_pk 2) (eas_p (ev_op op_pow pr_pow (eas_p ev_int.p (eas_p ev_int.p eas_nil))).p eas_nil)) (nomark _)) (ess_one (es_set 2 (by decide) c.nd rfl (by first | exact Or.inl rfl | exact Or.inr rfl) ev_int)) ess_nil)
    (ess_one (es_ret (ev_lst (ees_cons (ev_fz 2) (ees_cons (ev_fz 3) ees_nil)))))))))
theorem sc_law_take : FnScope ["_law_box_here", "_law_many", "_law_digit", "_law_one"] ["_law_box_here", "_law_many"] (defScope (topS 24)) := ⟨rfl, rfl, rfl, by decide +kernel, rfl, by decide +kernel, by decide +kernel⟩
theorem ok_law_take {P : Program} {w : World} {K : PySem.W.Frag} {mg : Str → Option Value} {base : Heap} (B : Nm K mg) {a : Addr} {fd : FuncData} (F : Fun K "_law_take" "_law_take" (topS 24) a fd) :
    FnG P w K mg base (L2.CX P w) 1 a fd ["_law_box_here", "_law_many"] (spF K mg 2 G.f_law_take) :=
  fnRule 2 F sc_law_take (by decide) fun cdv A outer s H E c =>
    (ess_cons (es_if (et_cmp op_gt pr_gt (eas_p (ev_ix ix_seq pr_ix (eas_p (ep_pk 0) (eas_p ev_int.p eas_nil))).p (eas_p ev_int.p eas_nil)) (nomark _)) (ess_cons (es_set 2 (by decide) c.nd rfl (by first | exact Or.inl rfl | exact Or.inr rfl) (ev_op op_mod pr_mod (eas_p (ev_ix ix_seq pr_ix (eas_p (ep_pk 0) (eas_p ev_int.p eas_nil))).p (eas_p (ep_pk 1) eas_nil))))
    (ess_cons (es_asg (ev_op op_fdivW pr_div (eas_p (ev_ix ix_seq pr_ix (eas_p (ep_pk 0) (eas_p ev_int.p eas_nil))).p (eas_p (ep_pk 1) eas_nil))) (eg_ix 0 ev_int))
    (ess_one (es_ret (ev_mv 2))))) ess_nil)
    (ess_cons (es_set 3 (by decide) c.nd rfl (by first | exact Or.inl rfl | exact Or.inr rfl) (ev_op op_mod pr_mod (eas_p (ev_op op_mul pr_mul (eas_p (ev_ix ix_seq pr_ix (eas_p (ep_pk 0) (eas_p ev_int.p eas_nil))).p (eas_p ev_int.p eas_nil))).p (eas_p ev_int.p eas_nil))))
    (ess_cons (es_asg (ev_op op_add4 pr_add (eas_p (ev_op op_mod pr_mod (eas_p (ev_op op_add4 pr_add (eas_p (ev_op op_mul pr_mul (eas_p (ep_pk 3) (eas_p ev_int.p eas_nil))).p (eas_p ev_int.p eas_nil))).p (eas_p ev_int.p eas_nil))).p (eas_p ev_int.p eas_nil))) (eg_ix 0 ev_int))
    (ess_one (es_ret (ev_op op_mod pr_mod (eas_p (ev_op op_fdivW pr_div (eas_p (ev_op op_add4 pr_add (eas_p (ev_op op_mul pr_mul (eas_p (ep_pk 3) (eas_p ev_int.p eas_nil))).p (eas_p (ev_ix ix_seq pr_ix (eas_p (ep_pk 0) (eas_p ev_int.p eas_nil))).p eas_nil))).p (eas_p ev_int.p eas_nil))).p (eas_p (ep_pk 1) eas_nil))))))))
theorem sc_law_names : FnScope ["_law_box_here", "_law_many", "_law_letters", "_law_words", "_law_stem", "_law_at", "_law_turn", "_law_longer", "_law_found", "_law_k", "_law_sign", "_law_name"] ["_law_box_here", "_law_many"] (defScope (topS 25)) := ⟨rfl, rfl, rfl, by decide +kernel, rfl, by decide +kernel, by decide +kernel⟩
theorem ok_law_names {P : Program} {w : World} {K : PySem.W.Frag} {mg : Str → Option Value} {base : Heap} (B : Nm K mg) (C_law_take : Callee P w K mg base "_law_take" 1 2 [] G.f_law_take) {a : Addr} {fd : FuncData} (F : Fun K "_law_names" "_law_names" (topS 25) a fd) :
    FnG P w K mg base (L2.CX P w) 2 a fd ["_law_box_here", "_law_many"] (spF K mg 2 G.f_law_names) :=
  fnRule 2 F sc_law_names (by decide) fun cdv A outer s H E c =>
    (ess_cons (es_set 2 (by decide) c.nd rfl (by first | exact Or.inl rfl | exact Or.inr rfl) ev_str)
    (ess_cons (es_set 3 (by decide) c.nd rfl (by first | exact Or.inl rfl | exact Or.inr rfl) (ev_lst (ees_cons ev_str (ees_cons ev_str (ees_cons ev_str (ees_cons ev_str (ees_cons ev_str (ees_cons ev_str (ees_cons ev_str (ees_cons ev_str (ees_cons ev_str (ees_cons ev_str (ees_cons ev_str (ees_cons ev_str (ees_cons ev_str ees_nil)))))))))))))))
    (ess_cons (es_set 3 (by decide) c.nd rfl (by first | exact Or.inl rfl | exact Or.inr rfl) (ev_op op_add4 pr_add (eas_p (ep_pk 3) (eas_p (ev_lst (ees_cons ev_str (ees_cons ev_str (ees_cons ev_str (ees_cons ev_str (ees_cons ev_str (ees_cons ev_str ees_nil))))))).p eas_nil))))
    (ess_cons (es_set 4 (by decide) c.nd rfl (by first | exact Or.inl rfl | exact Or.inr rfl) (ev_join ev_str (ev_comp c (own := [("_law_k", 9)]) (ei_range1 (ees_cons (ev_call c C_law_take (by omega) (by rfl) (eu_sl 0 (eu_val ev_int eu_nil))) ees_nil) (by rfl) B.m_range) (blkOk_by (by kernel_rfl)) (fun bi => (eb_name 9 (by decide) (c.blk _ bi).nd rfl (by first | exact Or.inl rfl | exact Or.inr rfl))) (fun bi => ec_yes) (fun bi => (ev_ix ix_seq pr_ix (eas_e (ev_fz 2) (eas_p (ev_call (c.blk _ bi) C_law_take (by omega) (by rfl) (eu_sl 0 (eu_val ev_int eu_nil))).p eas_nil))))).1.p))
    (ess_cons (es_par3 5 6 7 c (by decide) (by decide) (by decide) c.nd rfl rfl rfl (by decide) (by decide) (by decide) rfl rfl rfl (ees_cons (ev_call c C_law_take (by omega) (by rfl) (eu_sl 0 (eu_val (ev_op op_add4 pr_add (eas_p (ev_bi call_len pr_len B.m_len boot_len_ (eas_p (ep_pk 4) eas_nil)).p (eas_p ev_int.p eas_nil))) eu_nil))) (ees_cons (ev_call c C_law_take (by omega) (by rfl) (eu_sl 0 (eu_val ev_int eu_nil))) (ees_cons (ev_call c C_law_take (by omega) (by rfl) (eu_sl 0 (eu_val ev_int eu_nil))) ees_nil))))
    (ess_cons (es_set 8 (by decide) c.nd rfl (by first | exact Or.inl rfl | exact Or.inr rfl) (ev_lst ees_nil))
    (ess_cons (es_for c (ei_range1 (ees_cons (ev_fz 1) ees_nil) (by rfl) B.m_range) (eg_name 9 (by decide) c.nd rfl (by first | exact Or.inl rfl | exact Or.inr rfl)) (ess_cons (es_set 10 (by decide) c.nd rfl (by first | exact Or.inl rfl | exact Or.inr rfl) (ev_ix ix_seq pr_ix (eas_p (ep_pk 2) (eas_p (ev_op op_mod pr_mod (eas_p (ev_op op_add4 pr_add (eas_p (ep_pk 6) (eas_p (ev_op op_mul pr_mul (eas_p ev_int.p (eas_p (ep_pk 9) eas_nil))).p eas_nil))).p (eas_p ev_int.p eas_nil))).p eas_nil))))
    (ess_cons (es_set 11 (by decide) c.nd rfl (by first | exact Or.inl rfl | exact Or.inr rfl) (ev_op op_add4 pr_add (eas_p (ev_op op_add4 pr_add (eas_p (ev_op op_add4 pr_add (eas_p (ev_slHi (eas_p (ep_pk 4) (eas_p (ep_pk 5) eas_nil))).p (eas_p (ep_pk 10) eas_nil))).p (eas_p (ev_slLo (eas_p (ep_pk 4) (eas_p (ep_pk 5) eas_nil))).p eas_nil))).p (eas_p (ev_op op_tim4 pr_tim (eas_p ev_str.p (eas_p (ev_op op_mul pr_mul (eas_p (ep_pk 7) (eas_p (ev_op op_mod pr_mod (eas_p (ep_pk 9) (eas_p ev_int.p eas_nil))).p eas_nil))).p eas_nil))).p eas_nil))))
    (ess_cons (es_while 1000000 c (ew_or (et_cmp op_in2 pr_in (eas_p (ep_pk 11) (eas_p (ep_pk 3) eas_nil)) rfl) (ew_or1 (et_cmp op_in2 pr_in (eas_p (ep_pk 11) (eas_p (ep_pk 8) eas_nil)) rfl))).t (ess_cons (es_set 10 (by decide) c.nd rfl (by first | exact Or.inl rfl | exact Or.inr rfl) (ev_ix ix_seq pr_ix (eas_p (ep_pk 2) (eas_p (ev_op op_mod pr_mod (eas_p (ev_op op_add4 pr_add (eas_p (ev_idx (ev_rd 2) (ev_ix ix_seq pr_ix (eas_p (ep_pk 11) (eas_p (ev_un un_neg pr_neg (eas_p ev_int.p eas_nil)).p eas_nil))).p).p (eas_p ev_int.p eas_nil))).p (eas_p ev_int.p eas_nil))).p eas_nil))))
    (ess_one (es_set 11 (by decide) c.nd rfl (by first | exact Or.inl rfl | exact Or.inr rfl) (ev_op op_add4 pr_add (eas_p (ev_slHi (eas_p (ep_pk 11) (eas_p (ev_un un_neg pr_neg (eas_p ev_int.p eas_nil)).p eas_nil))).p (eas_p (ep_pk 10) eas_nil)))))))
    (ess_one (es_expr (ev_app 8 (ev_fz 11))))))))
    (ess_one (es_ret (ev_mv 8))))))))))
theorem sc_law_test : FnScope ["_law_box_here", "_law_asks", "_law_left", "_law_down", "_law_kind", "_law_one"] ["_law_box_here", "_law_asks", "_law_left", "_law_down"] (defScope (topS 26)) := ⟨rfl, rfl, rfl, by decide +kernel, rfl, by decide +kernel, by decide +kernel⟩
theorem ok_law_test {P : Program} {w : World} {K : PySem.W.Frag} {mg : Str → Option Value} {base : Heap} (B : Nm K mg) (C_law_take : Callee P w K mg base "_law_take" 1 2 [] G.f_law_take) {a : Addr} {fd : FuncData} (F : Fun K "_law_test" "_law_test" (topS 26) a fd) (mn : mg "_law_test" = some (.ref a)) (kp : PySem.W.keepIn K (.ref a) = true) (bd : L2.Binds K fd ["_law_box_here", "_law_asks", "_law_left", "_law_down"] []) : ∀ n : Nat,
    FnG P w K mg base (L2.CX P w) (1 + n) a fd ["_law_box_here", "_law_asks", "_law_left", "_law_down"] (spF K mg 4 (G.f_law_test n))
  | 0 => fnBad rfl
  | n + 1 => by
    have C_law_test : Callee P w K mg base "_law_test" (1 + n) 4 [] (G.f_law_test n) := ⟨_, _, _, [], [], ok_law_test B C_law_take F mn kp bd n, mn, kp, bd, .nil, fun _ => .nil⟩
    exact fnRule (k := 1 + n) 4 F sc_law_test (by decide) fun cdv A outer s H E c =>
    (ess_cons (es_set 4 (by decide) c.nd rfl (by first | exact Or.inl rfl | exact Or.inr rfl) (ev_call c C_law_take (by omega) (by rfl) (eu_sl 0 (eu_val ev_int eu_nil))))
    (ess_cons (es_if (ew_or (et_cmp op_gt pr_gt (eas_p (ep_pk 4) (eas_p ev_int.p eas_nil)) (nomark _)) (ew_or (et_cmp (op_eq2 c.hr.units) pr_eq (eas_p (ep_pk 3) (eas_p ev_int.p eas_nil)) (nomark _)) (ew_or1 (et_cmp op_lt pr_lt (eas_p (ev_ix ix_seq pr_ix (eas_p (ep_pk 2) (eas_p ev_int.p eas_nil))).p (eas_p ev_int.p eas_nil)) (nomark _))))).t (ess_cons (es_if (ew_and (et_cmp op_gt pr_gt (eas_p (ev_bi call_len pr_len B.m_len boot_len_ (eas_p (ep_pk 1) eas_nil)).p (eas_p ev_int.p eas_nil)) (nomark _)) (ew_and1 (et_cmp (op_ne2 c.hr.units) pr_ne (eas_p (ep_pk 4) (eas_p ev_int.p eas_nil)) (nomark _)))).t (ess_one (es_ret (ev_tup (ees_cons ev_str (ees_cons (ev_ix ix_seq pr_ix (eas_e (ev_fz 1) (eas_p (ev_call c C_law_take (by omega) (by rfl) (eu_sl 0 (eu_val (ev_bi call_len pr_len B.m_len boot_len_ (eas_p (ep_pk 1) eas_nil)) eu_nil))).p eas_nil))) ees_nil))))) ess_nil)
    (ess_one (es_ret (ev_ix ix_seq pr_ix (eas_e (ev_lst (ees_cons (ev_tup (ees_cons ev_str ees_nil)) (ees_cons (ev_tup (ees_cons ev_str ees_nil)) ees_nil))) (eas_p (ev_call c C_law_take (by omega) (by rfl) (eu_sl 0 (eu_val ev_int eu_nil))).p eas_nil)))))) ess_nil)
    (ess_cons (es_asg (ev_op op_sub pr_sub (eas_p (ev_op op_sub pr_sub (eas_p (ev_ix ix_seq pr_ix (eas_p (ep_pk 2) (eas_p ev_int.p eas_nil))).p (eas_p ev_int.p eas_nil))).p (eas_p (ev_ty call_int1 pr_int B.m_int boot_int_ (eas_p (ev_cmp op_gt pr_gt (eas_p (ep_pk 4) (eas_p ev_int.p eas_nil)) (nomark _)).p eas_nil)).p eas_nil))) (eg_ix 2 ev_int))
    (ess_cons (es_set 5 (by decide) c.nd rfl (by first | exact Or.inl rfl | exact Or.inr rfl) (ev_call c C_law_test (by omega) (by rfl) (eu_sl 0 (eu_sl 1 (eu_sl 2 (eu_val (ev_op op_sub pr_sub (eas_p (ep_pk 3) (eas_p ev_int.p eas_nil))) eu_nil))))))
    (ess_cons (es_if (et_cmp (op_eq2 c.hr.units) pr_eq (eas_p (ep_pk 4) (eas_p ev_int.p eas_nil)) (nomark _)) (ess_one (es_ret (ev_tup (ees_cons ev_str (ees_cons (ev_fz 5) ees_nil))))) ess_nil)
    (ess_one (es_ret (ev_tup (ees_cons (ev_ix ix_seq pr_ix (eas_p (ev_lst (ees_cons ev_str (ees_cons ev_str ees_nil))).p (eas_p (ev_op op_sub pr_sub (eas_p (ep_pk 4) (eas_p ev_int.p eas_nil))).p eas_nil))) (ees_cons (ev_fz 5) (ees_cons (ev_call c C_law_test (by omega) (by rfl) (eu_sl 0 (eu_sl 1 (eu_sl 2 (eu_val (ev_op op_sub pr_sub (eas_p (ep_pk 3) (eas_p ev_int.p eas_nil))) eu_nil))))) ees_nil)))))))))))
theorem sc_law_so : FnScope ["_law_asks", "_law_test_here", "_law_n"] ["_law_asks", "_law_test_here", "_law_n"] (defScope (topS 27)) := ⟨rfl, rfl, rfl, by decide +kernel, rfl, by decide +kernel, by decide +kernel⟩
theorem ok_law_so {P : Program} {w : World} {K : PySem.W.Frag} {mg : Str → Option Value} {base : Heap} (B : Nm K mg) {a : Addr} {fd : FuncData} (F : Fun K "_law_so" "_law_so" (topS 27) a fd) (mn : mg "_law_so" = some (.ref a)) (kp : PySem.W.keepIn K (.ref a) = true) (bd : L2.Binds K fd ["_law_asks", "_law_test_here", "_law_n"] []) : ∀ n : Nat,
    FnG P w K mg base (L2.CX P w) (0 + n) a fd ["_law_asks", "_law_test_here", "_law_n"] (spF K mg 3 (G.f_law_so n))
  | 0 => fnBad rfl
  | n + 1 => by
    have C_law_so : Callee P w K mg base "_law_so" (0 + n) 3 [] (G.f_law_so n) := ⟨_, _, _, [], [], ok_law_so B F mn kp bd n, mn, kp, bd, .nil, fun _ => .nil⟩
    exact fnRule (k := 0 + n) 3 F sc_law_so (by decide) fun cdv A outer s H E c =>
    (ess_cons (es_if (et_cmp (op_eq2 c.hr.units) pr_eq (eas_p (ev_ix ix_seq pr_ix (eas_p (ep_pk 1) (eas_p ev_int.p eas_nil))).p (eas_p ev_str.p eas_nil)) (nomark _)) (ess_one (es_ret (ev_cmp (op_eq2 c.hr.units) pr_eq (eas_p (ev_op op_and pr_and (eas_p (ev_op op_shr pr_shr (eas_p (ep_pk 2) (eas_p (ev_idx (ev_rd 0) (ev_ix ix_seq pr_ix (eas_p (ep_pk 1) (eas_p ev_int.p eas_nil))).p).p eas_nil))).p (eas_p ev_int.p eas_nil))).p (eas_p ev_int.p eas_nil)) (nomark _)))) ess_nil)
    (ess_cons (es_if (et_cmp (op_eq2 c.hr.units) pr_eq (eas_p (ev_ix ix_seq pr_ix (eas_p (ep_pk 1) (eas_p ev_int.p eas_nil))).p (eas_p ev_str.p eas_nil)) (nomark _)) (ess_one (es_ret (ev_not (ev_call c C_law_so (by omega) (by rfl) (eu_sl 0 (eu_val (ev_ix ix_seq pr_ix (eas_p (ep_pk 1) (eas_p ev_int.p eas_nil))) (eu_sl 2 eu_nil))))))) ess_nil)
    (ess_cons (es_if (et_cmp (op_eq2 c.hr.units) pr_eq (eas_p (ev_ix ix_seq pr_ix (eas_p (ep_pk 1) (eas_p ev_int.p eas_nil))).p (eas_p ev_str.p eas_nil)) (nomark _)) (ess_one (es_ret (ev_and (ev_call c C_law_so (by omega) (by rfl) (eu_sl 0 (eu_val (ev_ix ix_seq pr_ix (eas_p (ep_pk 1) (eas_p ev_int.p eas_nil))) (eu_sl 2 eu_nil)))) (ev_one (ev_call c C_law_so (by omega) (by rfl) (eu_sl 0 (eu_val (ev_ix ix_seq pr_ix (eas_p (ep_pk 1) (eas_p ev_int.p eas_nil))) (eu_sl 2 eu_nil)))))))) ess_nil)
    (ess_cons (es_if (et_cmp (op_eq2 c.hr.units) pr_eq (eas_p (ev_ix ix_seq pr_ix (eas_p (ep_pk 1) (eas_p ev_int.p eas_nil))).p (eas_p ev_str.p eas_nil)) (nomark _)) (ess_one (es_ret (ev_or (ev_call c C_law_so (by omega) (by rfl) (eu_sl 0 (eu_val (ev_ix ix_seq pr_ix (eas_p (ep_pk 1) (eas_p ev_int.p eas_nil))) (eu_sl 2 eu_nil)))) (ev_one (ev_call c C_law_so (by omega) (by rfl) (eu_sl 0 (eu_val (ev_ix ix_seq pr_ix (eas_p (ep_pk 1) (eas_p ev_int.p eas_nil))) (eu_sl 2 eu_nil)))))))) ess_nil)
    (ess_one (es_ret (ev_cmp (op_eq2 c.hr.units) pr_eq (eas_p (ev_ix ix_seq pr_ix (eas_p (ep_pk 1) (eas_p ev_int.p eas_nil))).p (eas_p ev_str.p eas_nil)) (nomark _))))))))
theorem sc_law_rests : FnScope ["_law_book_here", "_law_n", "_law_d", "_law_asks", "_law_deeds", "_law_facts", "_law_found", "_law_fact_here", "_law_ahead", "_law_at"] ["_law_book_here", "_law_n", "_law_d"] (defScope (topS 28)) := ⟨rfl, rfl, rfl, by decide +kernel, rfl, by decide +kernel, by decide +kernel⟩
theorem ok_law_rests {P : Program} {w : World} {K : PySem.W.Frag} {mg : Str → Option Value} {base : Heap} (B : Nm K mg) {a : Addr} {fd : FuncData} (F : Fun K "_law_rests" "_law_rests" (topS 28) a fd) :
    FnG P w K mg base (L2.CX P w) 1 a fd ["_law_book_here", "_law_n", "_law_d"] (spF K mg 3 G.f_law_rests) :=
  fnRule 3 F sc_law_rests (by decide) fun cdv A outer s H E c =>
    (ess_cons (es_asg (ev_fz 0) (eg_tup c.calm (egs_cons 3 (by decide) c.nd rfl (by first | exact Or.inl rfl | exact Or.inr rfl) (egs_cons 4 (by decide) c.nd rfl (by first | exact Or.inl rfl | exact Or.inr rfl) (egs_cons 5 (by decide) c.nd rfl (by first | exact Or.inl rfl | exact Or.inr rfl) egs_nil))) rfl rfl (cg_cons (cg_cons (cg_cons cg_nil)))))
    (ess_cons (es_set 6 (by decide) c.nd rfl (by first | exact Or.inl rfl | exact Or.inr rfl) (ev_lst ees_nil))
    (ess_cons (es_for c (ei_seq (ev_fz 5)) (eg_name 7 (by decide) c.nd rfl (by first | exact Or.inl rfl | exact Or.inr rfl)) (ess_cons (es_if (et_cmp (op_eq2 c.hr.units) pr_eq (eas_p (ev_ix ix_seq pr_ix (eas_p (ep_pk 7) (eas_p ev_int.p eas_nil))).p (eas_p ev_str.p eas_nil)) (nomark _)) (ess_one (es_expr (ev_app 6 (ev_idx (ev_fz 4) (ev_ix ix_seq pr_ix (eas_p (ep_pk 7) (eas_p ev_int.p eas_nil))).p)))) ess_nil)
    (ess_one (es_if (ew_and (et_cmp (op_eq2 c.hr.units) pr_eq (eas_p (ev_ix ix_seq pr_ix (eas_p (ep_pk 7) (eas_p ev_int.p eas_nil))).p (eas_p ev_str.p eas_nil)) (nomark _)) (ew_and1 (et_cmp (op_eq2 c.hr.units) pr_eq (eas_p (ev_cmp (op_eq2 c.hr.units) pr_eq (eas_p (ev_op op_and pr_and (eas_p (ev_op op_shr pr_shr (eas_p (ep_pk 1) (eas_p (ev_idx (ev_rd 3) (ev_ix ix_seq pr_ix (eas_p (ep_pk 7) (eas_p ev_int.p eas_nil))).p).p eas_nil))).p (eas_p ev_int.p eas_nil))).p (eas_p ev_int.p eas_nil)) (nomark _)).p (eas_p (ev_ix ix_seq pr_ix (eas_p (ep_pk 7) (eas_p ev_int.p eas_nil))).p eas_nil)) (nomark _)))).t (ess_one (es_expr (ev_app 6 (ev_idx (ev_fz 4) (ev_ix ix_seq pr_ix (eas_p (ep_pk 7) (eas_p ev_int.p eas_nil))).p)))) ess_nil))))
    (ess_cons (es_set 8 (by decide) c.nd rfl (by first | exact Or.inl rfl | exact Or.inr rfl) (ev_op op_add4 pr_add (eas_p (ev_op op_tim4 pr_tim (eas_p (ev_lst (ees_cons (ev_fz 2) ees_nil)).p (eas_p (ev_ty call_int1 pr_int B.m_int boot_int_ (eas_p (ev_cmp op_ge pr_ge (eas_p (ep_pk 2) (eas_p ev_int.p eas_nil)) (nomark _)).p eas_nil)).p eas_nil))).p (eas_p (ep_pk 6) eas_nil))))
    (ess_cons (es_set 9 (by decide) c.nd rfl (by first | exact Or.inl rfl | exact Or.inr rfl) ev_int)
    (ess_cons (es_while 1000000 c (et_cmp op_lt pr_lt (eas_p (ep_pk 9) (eas_p (ev_bi call_len pr_len B.m_len boot_len_ (eas_p (ep_pk 8) eas_nil)).p eas_nil)) (nomark _)) (ess_cons (es_for c (ei_seq (ev_fz 5)) (eg_name 7 (by decide) c.nd rfl (by first | exact Or.inl rfl | exact Or.inr rfl)) (ess_one (es_if (ew_and (et_cmp (op_eq2 c.hr.units) pr_eq (eas_p (ev_ix ix_seq pr_ix (eas_p (ep_pk 7) (eas_p ev_int.p eas_nil))).p (eas_p ev_str.p eas_nil)) (nomark _)) (ew_and (et_cmp (op_eq2 c.hr.units) pr_eq (eas_p (ev_ix ix_seq pr_ix (eas_p (ep_pk 7) (eas_p ev_int.p eas_nil))).p (eas_p (ev_ix ix_seq pr_ix (eas_p (ep_pk 4) (eas_p (ev_ix ix_seq pr_ix (eas_p (ep_pk 8) (eas_p (ep_pk 9) eas_nil))).p eas_nil))).p eas_nil)) (nomark _)) (ew_and1 (et_cmp op_notIn2 pr_in (eas_p (ev_idx (ev_fz 4) (ev_ix ix_seq pr_ix (eas_p (ep_pk 7) (eas_p ev_int.p eas_nil))).p).p (eas_p (ep_pk 6) eas_nil)) rfl)))).t (ess_cons (es_expr (ev_app 6 (ev_idx (ev_fz 4) (ev_ix ix_seq pr_ix (eas_p (ep_pk 7) (eas_p ev_int.p eas_nil))).p)))
    (ess_one (es_expr (ev_app 8 (ev_ix ix_seq pr_ix (eas_p (ep_pk 6) (eas_p (ev_un un_neg pr_neg (eas_p ev_int.p eas_nil)).p eas_nil))))))) ess_nil)))
    (ess_one (es_set 9 (by decide) c.nd rfl (by first | exact Or.inl rfl | exact Or.inr rfl) (ev_op op_add4 pr_add (eas_p (ep_pk 9) (eas_p ev_int.p eas_nil)))))))
    (ess_one (es_ret (ev_sortSet c.calm (ep_pk 6) B.m_sorted B.m_set)))))))))
theorem sc_law_fits : FnScope ["_law_book_here", "_law_n", "_law_d", "_law_still", "_law_asks", "_law_deeds", "_law_facts", "_law_fact_here"] ["_law_book_here", "_law_n", "_law_d", "_law_still"] (defScope (topS 29)) := ⟨rfl, rfl, rfl, by decide +kernel, rfl, by decide +kernel, by decide +kernel⟩
theorem ok_law_fits {P : Program} {w : World} {K : PySem.W.Frag} {mg : Str → Option Value} {base : Heap} (B : Nm K mg) (C_law_so : Callee P w K mg base "_law_so" 14 3 [] (G.f_law_so 14)) {a : Addr} {fd : FuncData} (F : Fun K "_law_fits" "_law_fits" (topS 29) a fd) :
    FnG P w K mg base (L2.CX P w) 15 a fd ["_law_book_here", "_law_n", "_law_d", "_law_still"] (spF K mg 4 G.f_law_fits) :=
  fnRule 4 F sc_law_fits (by decide) fun cdv A outer s H E c =>
    (ess_cons (es_asg (ev_fz 0) (eg_tup c.calm (egs_cons 4 (by decide) c.nd rfl (by first | exact Or.inl rfl | exact Or.inr rfl) (egs_cons 5 (by decide) c.nd rfl (by first | exact Or.inl rfl | exact Or.inr rfl) (egs_cons 6 (by decide) c.nd rfl (by first | exact Or.inl rfl | exact Or.inr rfl) egs_nil))) rfl rfl (cg_cons (cg_cons (cg_cons cg_nil)))))
    (ess_cons (es_for c (ei_seq (ev_fz 6)) (eg_name 7 (by decide) c.nd rfl (by first | exact Or.inl rfl | exact Or.inr rfl)) (ess_cons (es_if (ew_and (et_cmp (op_eq2 c.hr.units) pr_eq (eas_p (ev_ix ix_seq pr_ix (eas_p (ep_pk 7) (eas_p ev_int.p eas_nil))).p (eas_p ev_str.p eas_nil)) (nomark _)) (ew_and1 (et_val (ev_call c C_law_so (by omega) (by rfl) (eu_sl 4 (eu_val (ev_ix ix_seq pr_ix (eas_p (ep_pk 7) (eas_p ev_int.p eas_nil))) (eu_sl 1 eu_nil))))))).t (ess_one (es_ret ev_bl)) ess_nil)
    (ess_one (es_if (ew_and (et_cmp (op_eq2 c.hr.units) pr_eq (eas_p (ev_ix ix_seq pr_ix (eas_p (ep_pk 7) (eas_p ev_int.p eas_nil))).p (eas_p ev_str.p eas_nil)) (nomark _)) (ew_and1 (et_cmp op_in2 pr_in (eas_p (ev_idx (ev_fz 5) (ev_ix ix_seq pr_ix (eas_p (ep_pk 7) (eas_p ev_int.p eas_nil))).p).p (eas_p (ev_op op_add4 pr_add (eas_p (ev_lst (ees_cons (ev_rd 2) ees_nil)).p (eas_p (ep_pk 3) eas_nil))).p eas_nil)) rfl))).t (ess_one (es_if (et_cmp (op_ne2 c.hr.units) pr_ne (eas_p (ev_cmp (op_eq2 c.hr.units) pr_eq (eas_p (ev_op op_and pr_and (eas_p (ev_op op_shr pr_shr (eas_p (ep_pk 1) (eas_p (ev_idx (ev_rd 4) (ev_ix ix_seq pr_ix (eas_p (ep_pk 7) (eas_p ev_int.p eas_nil))).p).p eas_nil))).p (eas_p ev_int.p eas_nil))).p (eas_p ev_int.p eas_nil)) (nomark _)).p (eas_p (ev_ix ix_seq pr_ix (eas_p (ep_pk 7) (eas_p ev_int.p eas_nil))).p eas_nil)) (nomark _)) (ess_one (es_ret ev_bl)) ess_nil)) ess_nil))))
    (ess_one (es_ret ev_bl))))
theorem sc_law_kept : FnScope ["_law_book_here", "_law_p", "_law_found", "_law_fact_here"] ["_law_book_here", "_law_p"] (defScope (topS 30)) := ⟨rfl, rfl, rfl, by decide +kernel, rfl, by decide +kernel, by decide +kernel⟩
theorem ok_law_kept {P : Program} {w : World} {K : PySem.W.Frag} {mg : Str → Option Value} {base : Heap} (B : Nm K mg) {a : Addr} {fd : FuncData} (F : Fun K "_law_kept" "_law_kept" (topS 30) a fd) :
    FnG P w K mg base (L2.CX P w) 1 a fd ["_law_book_here", "_law_p"] (spF K mg 2 G.f_law_kept) :=
  fnRule 2 F sc_law_kept (by decide) fun cdv A outer s H E c =>
    (ess_cons (es_set 2 (by decide) c.nd rfl (by first | exact Or.inl rfl | exact Or.inr rfl) ev_int)
    (ess_cons (es_for c (ei_seq (ev_ix ix_seq pr_ix (eas_p (ep_pk 0) (eas_p ev_int.p eas_nil)))) (eg_name 3 (by decide) c.nd rfl (by first | exact Or.inl rfl | exact Or.inr rfl)) (ess_one (es_if (ew_and (et_cmp (op_eq2 c.hr.units) pr_eq (eas_p (ev_ix ix_seq pr_ix (eas_p (ep_pk 3) (eas_p ev_int.p eas_nil))).p (eas_p ev_str.p eas_nil)) (nomark _)) (ew_and1 (et_cmp (op_eq2 c.hr.units) pr_eq (eas_p (ev_ix ix_seq pr_ix (eas_p (ep_pk 3) (eas_p ev_int.p eas_nil))).p (eas_p (ev_ix ix_seq pr_ix (eas_p (ev_ix ix_seq pr_ix (eas_p (ep_pk 0) (eas_p ev_int.p eas_nil))).p (eas_p (ep_pk 1) eas_nil))).p eas_nil)) (nomark _)))).t (ess_one (es_set 2 (by decide) c.nd rfl (by first | exact Or.inl rfl | exact Or.inr rfl) (ev_op op_or pr_or (eas_p (ep_pk 2) (eas_p (ev_op op_shl pr_shl (eas_p ev_int.p (eas_p (ev_idx (ev_ix ix_seq pr_ix (eas_p (ep_pk 0) (eas_p ev_int.p eas_nil))) (ev_ix ix_seq pr_ix (eas_p (ep_pk 3) (eas_p ev_int.p eas_nil))).p).p eas_nil))).p eas_nil))))) ess_nil)))
    (ess_one (es_ret (ev_mv 2)))))
theorem sc_law_live : FnScope ["_law_book_here", "_law_left", "_law_n", "_law_d", "_law_still", "_law_kept_here", "_law_lost", "_law_p", "_law_found", "_law_steps", "_law_some", "_law_m", "_law_state"] ["_law_book_here"] (defScope (topS 31)) := ⟨rfl, rfl, rfl, by decide +kernel, rfl, by decide +kernel, by decide +kernel⟩
theorem ok_law_live {P : Program} {w : World} {K : PySem.W.Frag} {mg : Str → Option Value} {base : Heap} (B : Nm K mg) (C_law_kept : Callee P w K mg base "_law_kept" 1 2 [] G.f_law_kept) (C_law_fits : Callee P w K mg base "_law_fits" 15 4 [] G.f_law_fits) (C_law_rests : Callee P w K mg base "_law_rests" 1 3 [] G.f_law_rests) {a : Addr} {fd : FuncData} (F : Fun K "_law_live" "_law_live" (topS 31) a fd) :
    FnG P w K mg base (L2.CX P w) 16 a fd ["_law_book_here"] (spF K mg 1 G.f_law_live) :=
  fnRule 1 F sc_law_live (by decide) fun cdv A outer s H E c =>
    (ess_cons (es_set 1 (by decide) c.nd rfl (by first | exact Or.inl rfl | exact Or.inr rfl) ev_newT)
    (ess_cons (es_for c (ei_range1 (ees_cons (ev_op op_shl pr_shl (eas_p ev_int.p (eas_p (ev_bi call_len pr_len B.m_len boot_len_ (eas_p (ev_ix ix_seq pr_ix (eas_p (ep_pk 0) (eas_p ev_int.p eas_nil))).p eas_nil)).p eas_nil))) ees_nil) (by rfl) B.m_range) (eg_name 2 (by decide) c.nd rfl (by first | exact Or.inl rfl | exact Or.inr rfl)) (ess_one (es_for c (ei_range2 (ees_cons (ev_un un_neg pr_neg (eas_p ev_int.p eas_nil)) (ees_cons (ev_bi call_len pr_len B.m_len boot_len_ (eas_p (ev_ix ix_seq pr_ix (eas_p (ep_pk 0) (eas_p ev_int.p eas_nil))).p eas_nil)) ees_nil)) (by rfl) B.m_range) (eg_name 3 (by decide) c.nd rfl (by first | exact Or.inl rfl | exact Or.inr rfl)) (ess_cons (es_set 4 (by decide) c.nd rfl (by first | exact Or.inl rfl | exact Or.inr rfl) (ev_call c C_law_rests (by omega) (by rfl) (eu_sl 0 (eu_sl 2 (eu_sl 3 eu_nil)))))
    (ess_one (es_if (et_val (ev_call c C_law_fits (by omega) (by rfl) (eu_sl 0 (eu_sl 2 (eu_sl 3 (eu_sl 4 eu_nil)))))) (ess_one (es_asg (ev_frz (ev_comp c (own := [("_law_p", 7)]) (ei_range1 (ees_cons (ev_bi call_len pr_len B.m_len boot_len_ (eas_p (ev_ix ix_seq pr_ix (eas_p (ep_pk 0) (eas_p ev_int.p eas_nil))).p eas_nil)) ees_nil) (by rfl) B.m_range) (blkOk_by (by kernel_rfl)) (fun bi => (eb_name 7 (by decide) (c.blk _ bi).nd rfl (by first | exact Or.inl rfl | exact Or.inr rfl))) (fun bi => (ec_one (et_cmp op_notIn2 pr_in (eas_p (ep_pk 7) (eas_p (ep_pk 4) eas_nil)) rfl))) (fun bi => (ev_fz 7))).1) (eg_dput 1 c (ev_tup (ees_cons (ev_fz 2) (ees_cons (ev_fz 3) ees_nil)))))) ess_nil))))))
    (ess_cons (es_set 5 (by decide) c.nd rfl (by first | exact Or.inl rfl | exact Or.inr rfl) (ev_comp c (own := [("_law_p", 7)]) (ei_range1 (ees_cons (ev_bi call_len pr_len B.m_len boot_len_ (eas_p (ev_ix ix_seq pr_ix (eas_p (ep_pk 0) (eas_p ev_int.p eas_nil))).p eas_nil)) ees_nil) (by rfl) B.m_range) (blkOk_by (by kernel_rfl)) (fun bi => (eb_name 7 (by decide) (c.blk _ bi).nd rfl (by first | exact Or.inl rfl | exact Or.inr rfl))) (fun bi => ec_yes) (fun bi => (ev_call (c.blk _ bi) C_law_kept (by omega) (by rfl) (eu_sl 0 (eu_sl 7 eu_nil))))).1)
    (ess_cons (es_set 6 (by decide) c.nd rfl (by first | exact Or.inl rfl | exact Or.inr rfl) (ev_lst (ees_cons (ev_tup ees_nil) ees_nil)))
    (ess_cons (es_while 1000000 c (et_cmp (op_ne2 c.hr.units) pr_ne (eas_p (ep_pk 6) (eas_p (ev_lst ees_nil).p eas_nil)) (nomark _)) (ess_cons (es_set 6 (by decide) c.nd rfl (by first | exact Or.inl rfl | exact Or.inr rfl) (ev_lst ees_nil))
    (ess_cons (es_for c (ei_dict 1) (eg_tup c.calm (egs_cons 2 (by decide) c.nd rfl (by first | exact Or.inl rfl | exact Or.inr rfl) (egs_cons 3 (by decide) c.nd rfl (by first | exact Or.inl rfl | exact Or.inr rfl) egs_nil)) rfl rfl (cg_cons (cg_cons cg_nil))) (ess_one (es_for c (ei_seq (ev_dg c (eas_p (ep_pk 1) (eas_p (ev_tup (ees_cons (ev_rd 2) (ees_cons (ev_rd 3) ees_nil))).p eas_nil)))) (eg_name 7 (by decide) c.nd rfl (by first | exact Or.inl rfl | exact Or.inr rfl)) (ess_one (es_if (et_cmp (op_eq2 c.hr.units) pr_eq (eas_p (ev_comp c (own := [("_law_m", 11)]) (ei_range1 (ees_cons (ev_op op_shl pr_shl (eas_p ev_int.p (eas_p (ev_bi call_len pr_len B.m_len boot_len_ (eas_p (ev_ix ix_seq pr_ix (eas_p (ep_pk 0) (eas_p ev_int.p eas_nil))).p eas_nil)).p eas_nil))) ees_nil) (by rfl) B.m_range) (blkOk_by (by kernel_rfl)) (fun bi => (eb_name 11 (by decide) (c.blk _ bi).nd rfl (by first | exact Or.inl rfl | exact Or.inr rfl))) (fun bi => (ec_one (ew_and (et_di (c.blk _ bi) (eas_p (ev_tup (ees_cons (ev_fz 11) (ees_cons (ev_fz 7) ees_nil))).p (eas_p (ep_pk 1) eas_nil))) (ew_and1 (et_cmp (op_eq2 (c.blk _ bi).hr.units) pr_eq (eas_p (ev_op op_and pr_and (eas_p (ev_op op_xor pr_xor (eas_p (ep_pk 11) (eas_p (ep_pk 2) eas_nil))).p (eas_p (ev_ix ix_seq pr_ix (eas_p (ep_pk 5) (eas_p (ep_pk 7) eas_nil))).p eas_nil))).p (eas_p ev_int.p eas_nil)) (nomark _)))).t)) (fun bi => (ev_fz 11))).1.p (eas_p (ev_lst ees_nil).p eas_nil)) (nomark _)) (ess_one (es_expr (ev_app 6 (ev_tup (ees_cons (ev_fz 2) (ees_cons (ev_fz 3) ees_nil)))))) ess_nil)))))
    (ess_one (es_set 1 (by decide) c.nd rfl (by first | exact Or.inl rfl | exact Or.inr rfl) (ev_ty (call_dictPT c.calm (unit64 c)) pr_dt B.m_dict boot_dict_ (eas_p (ev_comp c (own := [("_law_state", 12)]) (ei_dict 1) (blkOk_by (by kernel_rfl)) (fun bi => (eb_name 12 (by decide) (c.blk _ bi).nd rfl (by first | exact Or.inl rfl | exact Or.inr rfl))) (fun bi => (ec_one (et_cmp (op_notInD (unit65 (c.blk _ bi))) pr_ninD (eas_p (ep_pk 12) (eas_p (ep_pk 6) eas_nil)) rfl))) (fun bi => (ev_tup (ees_cons (ev_fz 12) (ees_cons (ev_dg (c.blk _ bi) (eas_p (ep_pk 1) (eas_p (ep_pk 12) eas_nil))) ees_nil))))).1.p eas_nil)))))))
    (ess_cons (es_set 8 (by decide) c.nd rfl (by first | exact Or.inl rfl | exact Or.inr rfl) ev_newT)
    (ess_cons (es_for c (ei_dict 1) (eg_tup c.calm (egs_cons 2 (by decide) c.nd rfl (by first | exact Or.inl rfl | exact Or.inr rfl) (egs_cons 3 (by decide) c.nd rfl (by first | exact Or.inl rfl | exact Or.inr rfl) egs_nil)) rfl rfl (cg_cons (cg_cons cg_nil))) (ess_cons (es_set 9 (by decide) c.nd rfl (by first | exact Or.inl rfl | exact Or.inr rfl) (ev_lst ees_nil))
    (ess_cons (es_for c (ei_seq (ev_dg c (eas_p (ep_pk 1) (eas_p (ev_tup (ees_cons (ev_rd 2) (ees_cons (ev_rd 3) ees_nil))).p eas_nil)))) (eg_name 7 (by decide) c.nd rfl (by first | exact Or.inl rfl | exact Or.inr rfl)) (ess_cons (es_setLc 10 c (by decide) rfl rfl (sw_true rfl rfl rfl (by decide +kernel)) (own := [("_law_m", 11)]) (ei_range1 (ees_cons (ev_op op_shl pr_shl (eas_p ev_int.p (eas_p (ev_bi call_len pr_len B.m_len boot_len_ (eas_p (ev_ix ix_seq pr_ix (eas_p (ep_pk 0) (eas_p ev_int.p eas_nil))).p eas_nil)).p eas_nil))) ees_nil) (by rfl) B.m_range) (blkOk_by (by kernel_rfl)) (fun bi => (eb_name 11 (by decide) (c.blk _ bi).nd rfl (by first | exact Or.inl rfl | exact Or.inr rfl))) (fun bi => (ec_one (ew_and (et_di (c.blk _ bi) (eas_p (ev_tup (ees_cons (ev_fz 11) (ees_cons (ev_fz 7) ees_nil))).p (eas_p (ep_pk 1) eas_nil))) (ew_and1 (et_cmp (op_eq2 (c.blk _ bi).hr.units) pr_eq (eas_p (ev_op op_and pr_and (eas_p (ev_op op_xor pr_xor (eas_p (ep_pk 11) (eas_p (ep_pk 2) eas_nil))).p (eas_p (ev_ix ix_seq pr_ix (eas_p (ep_pk 5) (eas_p (ep_pk 7) eas_nil))).p eas_nil))).p (eas_p ev_int.p eas_nil)) (nomark _)))).t)) (fun bi => (ev_fz 11)))
    (ess_one (es_set 9 (by decide) c.nd rfl (by first | exact Or.inl rfl | exact Or.inr rfl) (ev_op op_add4 pr_add (eas_e (ev_fz 9) (eas_p (ev_comp c (own := [("_law_m", 11)]) (ei_seq (ev_fz 10)) (blkOk_by (by kernel_rfl)) (fun bi => (eb_name 11 (by decide) (c.blk _ bi).nd rfl (by first | exact Or.inl rfl | exact Or.inr rfl))) (fun bi => ec_yes) (fun bi => (ev_tup (ees_cons (ev_fz 7) (ees_cons (ev_fz 11) ees_nil))))).1.p eas_nil)))))))
    (ess_one (es_asg (ev_fz 9) (eg_dput 8 c (ev_tup (ees_cons (ev_fz 2) (ees_cons (ev_fz 3) ees_nil)))))))))
    (ess_one (es_ret (ev_mv 8))))))))))
theorem sc_law_fact : FnScope ["_law_box_here", "_law_asks", "_law_deeds", "_law_p", "_law_r", "_law_kind", "_law_q", "_law_v", "_law_other"] ["_law_box_here", "_law_asks", "_law_deeds"] (defScope (topS 32)) := ⟨rfl, rfl, rfl, by decide +kernel, rfl, by decide +kernel, by decide +kernel⟩
theorem ok_law_fact {P : Program} {w : World} {K : PySem.W.Frag} {mg : Str → Option Value} {base : Heap} (B : Nm K mg) (C_law_take : Callee P w K mg base "_law_take" 1 2 [] G.f_law_take) (C_law_test : Callee P w K mg base "_law_test" 15 4 [] (G.f_law_test 14)) {a : Addr} {fd : FuncData} (F : Fun K "_law_fact" "_law_fact" (topS 32) a fd) :
    FnG P w K mg base (L2.CX P w) 16 a fd ["_law_box_here", "_law_asks", "_law_deeds"] (spF K mg 3 G.f_law_fact) :=
  fnRule 3 F sc_law_fact (by decide) fun cdv A outer s H E c =>
    (ess_cons (es_par2 3 4 c (by decide) (by decide) c.nd rfl rfl (by decide) rfl rfl (ees_cons (ev_ix ix_seq pr_ix (eas_e (ev_fz 2) (eas_p (ev_call c C_law_take (by omega) (by rfl) (eu_sl 0 (eu_val (ev_bi call_len pr_len B.m_len boot_len_ (eas_p (ep_pk 2) eas_nil)) eu_nil))).p eas_nil))) (ees_cons (ev_ix ix_seq pr_ix (eas_e (ev_fz 2) (eas_p (ev_call c C_law_take (by omega) (by rfl) (eu_sl 0 (eu_val (ev_bi call_len pr_len B.m_len boot_len_ (eas_p (ep_pk 2) eas_nil)) eu_nil))).p eas_nil))) ees_nil)))
    (ess_cons (es_set 5 (by decide) c.nd rfl (by first | exact Or.inl rfl | exact Or.inr rfl) (ev_call c C_law_take (by omega) (by rfl) (eu_sl 0 (eu_val ev_int eu_nil))))
    (ess_cons (es_if (et_cmp (op_eq2 c.hr.units) pr_eq (eas_p (ev_bi call_len pr_len B.m_len boot_len_ (eas_p (ep_pk 1) eas_nil)).p (eas_p ev_int.p eas_nil)) (nomark _)) (ess_one (es_ret (ev_ix ix_seq pr_ix (eas_p (ev_lst (ees_cons (ev_tup (ees_cons ev_str (ees_cons (ev_fz 3) (ees_cons (ev_fz 4) ees_nil)))) (ees_cons (ev_tup (ees_cons ev_str (ees_cons (ev_fz 3) (ees_cons (ev_fz 3) ees_nil)))) (ees_cons (ev_tup (ees_cons ev_str (ees_cons (ev_fz 3) ees_nil))) (ees_cons (ev_tup (ees_cons ev_str (ees_cons (ev_tup (ees_cons ev_str ees_nil)) ees_nil))) ees_nil))))).p (eas_p (ev_op op_mod pr_mod (eas_p (ep_pk 5) (eas_p ev_int.p eas_nil))).p eas_nil))))) ess_nil)
    (ess_cons (es_par2 6 7 c (by decide) (by decide) c.nd rfl rfl (by decide) rfl rfl (ees_cons (ev_ix ix_seq pr_ix (eas_e (ev_fz 1) (eas_p (ev_call c C_law_take (by omega) (by rfl) (eu_sl 0 (eu_val (ev_bi call_len pr_len B.m_len boot_len_ (eas_p (ep_pk 1) eas_nil)) eu_nil))).p eas_nil))) (ees_cons (ev_cmp (op_eq2 c.hr.units) pr_eq (eas_p (ev_call c C_law_take (by omega) (by rfl) (eu_sl 0 (eu_val ev_int eu_nil))).p (eas_p ev_int.p eas_nil)) (nomark _)) ees_nil)))
    (ess_cons (es_if (et_cmp op_lt pr_lt (eas_p (ep_pk 5) (eas_p ev_int.p eas_nil)) (nomark _)) (ess_one (es_ret (ev_tup (ees_cons ev_str (ees_cons (ev_fz 3) (ees_cons (ev_fz 6) ees_nil)))))) ess_nil)
    (ess_cons (es_if (et_cmp op_lt pr_lt (eas_p (ep_pk 5) (eas_p ev_int.p eas_nil)) (nomark _)) (ess_one (es_ret (ev_tup (ees_cons ev_str (ees_cons (ev_fz 3) (ees_cons (ev_fz 6) (ees_cons (ev_fz 7) ees_nil))))))) ess_nil)
    (ess_cons (es_if (et_cmp op_lt pr_lt (eas_p (ep_pk 5) (eas_p ev_int.p eas_nil)) (nomark _)) (ess_one (es_ret (ev_tup (ees_cons ev_str (ees_cons (ev_fz 3) (ees_cons (ev_ix ix_seq pr_ix (eas_p (ev_lst (ees_cons (ev_fz 3) (ees_cons (ev_fz 4) ees_nil))).p (eas_p (ev_op op_sub pr_sub (eas_p (ep_pk 5) (eas_p ev_int.p eas_nil))).p eas_nil))) ees_nil)))))) ess_nil)
    (ess_cons (es_if (et_cmp op_lt pr_lt (eas_p (ep_pk 5) (eas_p ev_int.p eas_nil)) (nomark _)) (ess_one (es_ret (ev_tup (ees_cons ev_str (ees_cons (ev_fz 6) (ees_cons (ev_fz 7) (ees_cons (ev_fz 3) ees_nil))))))) ess_nil)
    (ess_cons (es_if (et_cmp (op_eq2 c.hr.units) pr_eq (eas_p (ep_pk 5) (eas_p ev_int.p eas_nil)) (nomark _)) (ess_one (es_ret (ev_tup (ees_cons ev_str (ees_cons (ev_fz 3) ees_nil))))) ess_nil)
    (ess_cons (es_if (et_cmp (op_eq2 c.hr.units) pr_eq (eas_p (ep_pk 5) (eas_p ev_int.p eas_nil)) (nomark _)) (ess_one (es_ret (ev_tup (ees_cons ev_str (ees_cons (ev_call c C_law_test (by omega) (by rfl) (eu_sl 0 (eu_sl 1 (eu_val (ev_lst (ees_cons ev_int ees_nil)) (eu_val ev_int eu_nil))))) ees_nil))))) ess_nil)
    (ess_cons (es_set 8 (by decide) c.nd rfl (by first | exact Or.inl rfl | exact Or.inr rfl) (ev_tup (ees_cons ev_str (ees_cons (ev_ix ix_seq pr_ix (eas_e (ev_fz 1) (eas_p (ev_call c C_law_take (by omega) (by rfl) (eu_sl 0 (eu_val (ev_bi call_len pr_len B.m_len boot_len_ (eas_p (ep_pk 1) eas_nil)) eu_nil))).p eas_nil))) ees_nil))))
    (ess_one (es_ret (ev_tup (ees_cons ev_str (ees_cons (ev_tup (ees_cons ev_str (ees_cons (ev_tup (ees_cons ev_str (ees_cons (ev_fz 6) ees_nil))) (ees_cons (ev_ix ix_seq pr_ix (eas_p (ev_lst (ees_cons (ev_fz 8) (ees_cons (ev_tup (ees_cons ev_str (ees_cons (ev_fz 8) ees_nil))) ees_nil))).p (eas_p (ev_ty call_int1 pr_int B.m_int boot_int_ (eas_p (ep_pk 7) eas_nil)).p eas_nil))) ees_nil)))) ees_nil))))))))))))))))
theorem sc_law_book : FnScope ["_law_box_here", "_law_asks", "_law_deeds", "_law_many", "_law_facts", "_law_name", "_law_k"] ["_law_box_here"] (defScope (topS 33)) := ⟨rfl, rfl, rfl, by decide +kernel, rfl, by decide +kernel, by decide +kernel⟩
theorem ok_law_book {P : Program} {w : World} {K : PySem.W.Frag} {mg : Str → Option Value} {base : Heap} (B : Nm K mg) (C_law_take : Callee P w K mg base "_law_take" 1 2 [] G.f_law_take) (C_law_live : Callee P w K mg base "_law_live" 16 1 [] G.f_law_live) (C_law_fact : Callee P w K mg base "_law_fact" 16 3 [] G.f_law_fact) (C_law_names : Callee P w K mg base "_law_names" 2 2 [] G.f_law_names) {a : Addr} {fd : FuncData} (F : Fun K "_law_book" "_law_book" (topS 33) a fd) :
    FnG P w K mg base (L2.CX P w) 17 a fd ["_law_box_here"] (spF K mg 1 G.f_law_book) :=
  fnRule 1 F sc_law_book (by decide) fun cdv A outer s H E c =>
    (ess_cons (es_set 1 (by decide) c.nd rfl (by first | exact Or.inl rfl | exact Or.inr rfl) (ev_ty call_tupE pr_tup B.m_tuple boot_tuple_ (eas_p (ev_call c C_law_names (by omega) (by rfl) (eu_sl 0 (eu_val (ev_call c C_law_take (by omega) (by rfl) (eu_sl 0 (eu_val ev_int eu_nil))) eu_nil))).p eas_nil)))
    (ess_cons (es_set 2 (by decide) c.nd rfl (by first | exact Or.inl rfl | exact Or.inr rfl) (ev_ty call_tupE pr_tup B.m_tuple boot_tuple_ (eas_p (ev_call c C_law_names (by omega) (by rfl) (eu_sl 0 (eu_val (ev_op op_add4 pr_add (eas_e ev_int (eas_p (ev_call c C_law_take (by omega) (by rfl) (eu_sl 0 (eu_val ev_int eu_nil))).p eas_nil))) eu_nil))).p eas_nil)))
    (ess_cons (es_if (ew_and (et_cmp (op_eq2 c.hr.units) pr_eq (eas_p (ev_call c C_law_take (by omega) (by rfl) (eu_sl 0 (eu_val ev_int eu_nil))).p (eas_p ev_int.p eas_nil)) (nomark _)) (ew_and1 (et_cmp op_gt pr_gt (eas_p (ev_bi call_len pr_len B.m_len boot_len_ (eas_p (ep_pk 1) eas_nil)).p (eas_p ev_int.p eas_nil)) (nomark _)))).t (ess_one (es_set 2 (by decide) c.nd rfl (by first | exact Or.inl rfl | exact Or.inr rfl) (ev_op op_add4 pr_add (eas_e (ev_slHi (eas_p (ep_pk 2) (eas_p (ev_un un_neg pr_neg (eas_p ev_int.p eas_nil)).p eas_nil))) (eas_p (ev_ty call_tupE pr_tup B.m_tuple boot_tuple_ (eas_p (ev_orL (ev_comp c (own := [("_law_name", 5)]) (ei_seq (ev_slHi (eas_p (ep_pk 1) (eas_p ev_int.p eas_nil)))) (blkOk_by (by kernel_rfl)) (fun bi => (eb_name 5 (by decide) (c.blk _ bi).nd rfl (by first | exact Or.inl rfl | exact Or.inr rfl))) (fun bi => (ec_one (et_cmp op_notIn2 pr_in (eas_p (ep_pk 5) (eas_p (ev_slHi (eas_p (ep_pk 2) (eas_p (ev_un un_neg pr_neg (eas_p ev_int.p eas_nil)).p eas_nil))).p eas_nil)) rfl))) (fun bi => (ev_fz 5))).1 (ev_one (ev_slLo (eas_p (ep_pk 2) (eas_p (ev_un un_neg pr_neg (eas_p ev_int.p eas_nil)).p eas_nil))))).p eas_nil)).p eas_nil))))) ess_nil)
    (ess_cons (es_set 3 (by decide) c.nd rfl (by first | exact Or.inl rfl | exact Or.inr rfl) (ev_ix ix_seq pr_ix (eas_e (ev_lst (ees_cons (ev_call c C_law_take (by omega) (by rfl) (eu_sl 0 (eu_val ev_int eu_nil))) (ees_cons (ev_call c C_law_take (by omega) (by rfl) (eu_sl 0 (eu_val ev_int eu_nil))) ees_nil))) (eas_p (ev_call c C_law_take (by omega) (by rfl) (eu_sl 0 (eu_val ev_int eu_nil))).p eas_nil))))
    (ess_cons (es_set 4 (by decide) c.nd rfl (by first | exact Or.inl rfl | exact Or.inr rfl) (ev_ty call_tupE pr_tup B.m_tuple boot_tuple_ (eas_p (ev_comp c (own := [("_law_k", 6)]) (ei_range1 (ees_cons (ev_fz 3) ees_nil) (by rfl) B.m_range) (blkOk_by (by kernel_rfl)) (fun bi => (eb_name 6 (by decide) (c.blk _ bi).nd rfl (by first | exact Or.inl rfl | exact Or.inr rfl))) (fun bi => ec_yes) (fun bi => (ev_call (c.blk _ bi) C_law_fact (by omega) (by rfl) (eu_sl 0 (eu_sl 1 (eu_sl 2 eu_nil)))))).1.p eas_nil)))
    (ess_cons (es_if (et_cmp op_gt pr_gt (eas_p (ev_call c C_law_take (by omega) (by rfl) (eu_sl 0 (eu_val ev_int eu_nil))).p (eas_p ev_int.p eas_nil)) (nomark _)) (ess_one (es_while 1000000 c (ew_and (et_cmp (op_ne2 c.hr.units) pr_ne (eas_p (ep_pk 4) (eas_p (ev_tup ees_nil).p eas_nil)) (nomark _)) (ew_and1 (et_cmp (op_eqE (unit0 c)) pr_eqE (eas_p (ev_call c C_law_live (by omega) (by rfl) (eu_val (ev_tup (ees_cons (ev_fz 1) (ees_cons (ev_fz 2) (ees_cons (ev_fz 4) ees_nil)))) eu_nil)).p (eas_p ev_newT.p eas_nil)) (nomark _)))).t (ess_one (es_set 4 (by decide) c.nd rfl (by first | exact Or.inl rfl | exact Or.inr rfl) (ev_slHi (eas_p (ep_pk 4) (eas_p (ev_un un_neg pr_neg (eas_p ev_int.p eas_nil)).p eas_nil))))))) ess_nil)
    (ess_one (es_ret (ev_tup (ees_cons (ev_fz 1) (ees_cons (ev_fz 2) (ees_cons (ev_fz 4) ees_nil))))))))))))
theorem sc_law_is_name : FnScope ["_law_text", "_law_words", "_law_sign"] ["_law_text"] (defScope (topS 34)) := ⟨rfl, rfl, rfl, by decide +kernel, rfl, by decide +kernel, by decide +kernel⟩
theorem ok_law_is_name {P : Program} {w : World} {K : PySem.W.Frag} {mg : Str → Option Value} {base : Heap} (B : Nm K mg) {a : Addr} {fd : FuncData} (F : Fun K "_law_is_name" "_law_is_name" (topS 34) a fd) :
    FnG P w K mg base (L2.CX P w) 1 a fd ["_law_text"] (spF K mg 1 f_law_is_name) :=
  fnRule 1 F sc_law_is_name (by decide) fun cdv A outer s H E c =>
    (ess_cons (es_set 1 (by decide) c.nd rfl (by first | exact Or.inl rfl | exact Or.inr rfl) (ev_lst (ees_cons ev_str (ees_cons ev_str (ees_cons ev_str (ees_cons ev_str (ees_cons ev_str (ees_cons ev_str (ees_cons ev_str (ees_cons ev_str (ees_cons ev_str (ees_cons ev_str (ees_cons ev_str (ees_cons ev_str (ees_cons ev_str ees_nil)))))))))))))))
    (ess_cons (es_set 1 (by decide) c.nd rfl (by first | exact Or.inl rfl | exact Or.inr rfl) (ev_op op_add4 pr_add (eas_p (ep_pk 1) (eas_p (ev_lst (ees_cons ev_str (ees_cons ev_str (ees_cons ev_str (ees_cons ev_str (ees_cons ev_str (ees_cons ev_str ees_nil))))))).p eas_nil))))
    (ess_one (es_ret (ev_and (ev_chain op_lt op_lt pr_lt pr_lt ev_int (ev_bi call_len pr_len B.m_len boot_len_ (eas_p (ep_pk 0) eas_nil)) ev_int rfl) (ev_and (ev_cmp op_notIn2 pr_in (eas_p (ep_pk 0) (eas_p (ep_pk 1) eas_nil)) rfl) (ev_one (ev_bi (cr_all c.calm) pr_all B.m_all boot_all_ (eas_p (ev_comp c (own := [("_law_sign", 2)]) (ei_seq (ev_fz 0)) (blkOk_by (by kernel_rfl)) (fun bi => (eb_name 2 (by decide) (c.blk _ bi).nd rfl (by first | exact Or.inl rfl | exact Or.inr rfl))) (fun bi => ec_yes) (fun bi => (ev_chain op_le_str op_le_str pr_leS pr_leS ev_str (ev_fz 2) ev_str rfl))).1.p eas_nil)))))))))
theorem sc_law_asked_in : FnScope ["_law_test_here", "_law_found", "_law_one"] ["_law_test_here"] (defScope (topS 35)) := ⟨rfl, rfl, rfl, by decide +kernel, rfl, by decide +kernel, by decide +kernel⟩
theorem ok_law_asked_in {P : Program} {w : World} {K : PySem.W.Frag} {mg : Str → Option Value} {base : Heap} (B : Nm K mg) {a : Addr} {fd : FuncData} (F : Fun K "_law_asked_in" "_law_asked_in" (topS 35) a fd) (mn : mg "_law_asked_in" = some (.ref a)) (kp : PySem.W.keepIn K (.ref a) = true) (bd : L2.Binds K fd ["_law_test_here"] []) : ∀ n : Nat,
    FnG P w K mg base (L2.CX P w) (0 + n) a fd ["_law_test_here"] (spF K mg 1 (f_law_asked_in n))
  | 0 => fnBad rfl
  | n + 1 => by
    have C_law_asked_in : Callee P w K mg base "_law_asked_in" (0 + n) 1 [] (f_law_asked_in n) := ⟨_, _, _, [], [], ok_law_asked_in B F mn kp bd n, mn, kp, bd, .nil, fun _ => .nil⟩
    exact fnRule (k := 0 + n) 1 F sc_law_asked_in (by decide) fun cdv A outer s H E c =>
    (ess_cons (es_if (et_cmp (op_eq2 c.hr.units) pr_eq (eas_p (ev_ix ix_seq pr_ix (eas_p (ep_pk 0) (eas_p ev_int.p eas_nil))).p (eas_p ev_str.p eas_nil)) (nomark _)) (ess_one (es_ret (ev_lst (ees_cons (ev_ix ix_seq pr_ix (eas_p (ep_pk 0) (eas_p ev_int.p eas_nil))) ees_nil)))) ess_nil)
    (ess_cons (es_set 1 (by decide) c.nd rfl (by first | exact Or.inl rfl | exact Or.inr rfl) (ev_lst ees_nil))
    (ess_cons (es_for c (ei_seq (ev_slLo (eas_p (ep_pk 0) (eas_p ev_int.p eas_nil)))) (eg_name 2 (by decide) c.nd rfl (by first | exact Or.inl rfl | exact Or.inr rfl)) (ess_one (es_set 1 (by decide) c.nd rfl (by first | exact Or.inl rfl | exact Or.inr rfl) (ev_op op_add4 pr_add (eas_e (ev_fz 1) (eas_p (ev_call c C_law_asked_in (by omega) (by rfl) (eu_sl 2 eu_nil)).p eas_nil))))))
    (ess_one (es_ret (ev_mv 1))))))
theorem sc_law_there : FnScope ["_law_book_here", "_law_fact_here", "_law_asks", "_law_deeds", "_law_facts", "_law_word", "_law_q"] ["_law_book_here", "_law_fact_here"] (defScope (topS 36)) := ⟨rfl, rfl, rfl, by decide +kernel, rfl, by decide +kernel, by decide +kernel⟩
theorem ok_law_there {P : Program} {w : World} {K : PySem.W.Frag} {mg : Str → Option Value} {base : Heap} (B : Nm K mg) (C_law_asked_in : Callee P w K mg base "_law_asked_in" 14 1 [] (f_law_asked_in 14)) {a : Addr} {fd : FuncData} (F : Fun K "_law_there" "_law_there" (topS 36) a fd) :
    FnG P w K mg base (L2.CX P w) 15 a fd ["_law_book_here", "_law_fact_here"] (spF K mg 2 f_law_there) :=
  fnRule 2 F sc_law_there (by decide) fun cdv A outer s H E c =>
    (ess_cons (es_asg (ev_fz 0) (eg_tup c.calm (egs_cons 2 (by decide) c.nd rfl (by first | exact Or.inl rfl | exact Or.inr rfl) (egs_cons 3 (by decide) c.nd rfl (by first | exact Or.inl rfl | exact Or.inr rfl) (egs_cons 4 (by decide) c.nd rfl (by first | exact Or.inl rfl | exact Or.inr rfl) egs_nil))) rfl rfl (cg_cons (cg_cons (cg_cons cg_nil)))))
    (ess_cons (es_set 5 (by decide) c.nd rfl (by first | exact Or.inl rfl | exact Or.inr rfl) (ev_ix ix_seq pr_ix (eas_p (ep_pk 1) (eas_p ev_int.p eas_nil))))
    (ess_cons (es_if (et_cmp (op_eq2 c.hr.units) pr_eq (eas_p (ep_pk 5) (eas_p ev_str.p eas_nil)) (nomark _)) (ess_one (es_ret (ev_bi (cr_all c.calm) pr_all B.m_all boot_all_ (eas_p (ev_comp c (own := [("_law_q", 6)]) (ei_seq (ev_call c C_law_asked_in (by omega) (by rfl) (eu_val (ev_ix ix_seq pr_ix (eas_p (ep_pk 1) (eas_p ev_int.p eas_nil))) eu_nil))) (blkOk_by (by kernel_rfl)) (fun bi => (eb_name 6 (by decide) (c.blk _ bi).nd rfl (by first | exact Or.inl rfl | exact Or.inr rfl))) (fun bi => ec_yes) (fun bi => (ev_cmp op_in2 pr_in (eas_p (ep_pk 6) (eas_p (ep_pk 2) eas_nil)) rfl))).1.p eas_nil)))) ess_nil)
    (ess_cons (es_if (et_cmp (op_eq2 c.hr.units) pr_eq (eas_p (ep_pk 5) (eas_p ev_str.p eas_nil)) (nomark _)) (ess_one (es_ret (ev_and (ev_cmp op_in2 pr_in (eas_p (ev_ix ix_seq pr_ix (eas_p (ep_pk 1) (eas_p ev_int.p eas_nil))).p (eas_p (ep_pk 2) eas_nil)) rfl) (ev_one (ev_cmp op_in2 pr_in (eas_p (ev_ix ix_seq pr_ix (eas_p (ep_pk 1) (eas_p ev_int.p eas_nil))).p (eas_p (ep_pk 3) eas_nil)) rfl))))) ess_nil)
    (ess_cons (es_if (et_cmp (op_eq2 c.hr.units) pr_eq (eas_p (ep_pk 5) (eas_p ev_str.p eas_nil)) (nomark _)) (ess_one (es_ret (ev_and (ev_cmp op_in2 pr_in (eas_p (ev_ix ix_seq pr_ix (eas_p (ep_pk 1) (eas_p ev_int.p eas_nil))).p (eas_p (ep_pk 3) eas_nil)) rfl) (ev_one (ev_cmp op_in2 pr_in (eas_p (ev_ix ix_seq pr_ix (eas_p (ep_pk 1) (eas_p ev_int.p eas_nil))).p (eas_p (ep_pk 3) eas_nil)) rfl))))) ess_nil)
    (ess_one (es_ret (ev_and (ev_cmp op_in2 pr_in (eas_p (ev_ix ix_seq pr_ix (eas_p (ep_pk 1) (eas_p ev_int.p eas_nil))).p (eas_p (ep_pk 3) eas_nil)) rfl) (ev_one (ev_or (ev_cmp (op_eq2 c.hr.units) pr_eq (eas_p (ep_pk 5) (eas_p ev_str.p eas_nil)) (nomark _)) (ev_one (ev_cmp op_in2 pr_in (eas_p (ev_ix ix_seq pr_ix (eas_p (ep_pk 1) (eas_p ev_int.p eas_nil))).p (eas_p (ep_pk 2) eas_nil)) rfl))))))))))))
theorem sc_law_due : FnScope ["_law_book_here", "_law_asks", "_law_deeds", "_law_facts", "_law_word", "_law_names_here", "_law_name", "_law_fact_here"] ["_law_book_here"] (defScope (topS 37)) := ⟨rfl, rfl, rfl, by decide +kernel, rfl, by decide +kernel, by decide +kernel⟩
theorem ok_law_due {P : Program} {w : World} {K : PySem.W.Frag} {mg : Str → Option Value} {base : Heap} (B : Nm K mg) (C_law_there : Callee P w K mg base "_law_there" 15 2 [] f_law_there) (C_law_is_name : Callee P w K mg base "_law_is_name" 1 1 [] f_law_is_name) {a : Addr} {fd : FuncData} (F : Fun K "_law_due" "_law_due" (topS 37) a fd) :
    FnG P w K mg base (L2.CX P w) 16 a fd ["_law_book_here"] (spF K mg 1 f_law_due) :=
  fnRule 1 F sc_law_due (by decide) fun cdv A outer s H E c =>
    (ess_cons (es_asg (ev_fz 0) (eg_tup c.calm (egs_cons 1 (by decide) c.nd rfl (by first | exact Or.inl rfl | exact Or.inr rfl) (egs_cons 2 (by decide) c.nd rfl (by first | exact Or.inl rfl | exact Or.inr rfl) (egs_cons 3 (by decide) c.nd rfl (by first | exact Or.inl rfl | exact Or.inr rfl) egs_nil))) rfl rfl (cg_cons (cg_cons (cg_cons cg_nil)))))
    (ess_cons (es_for c (ei_seq (ev_tup (ees_cons (ev_tup (ees_cons ev_str (ees_cons (ev_fz 1) ees_nil))) (ees_cons (ev_tup (ees_cons ev_str (ees_cons (ev_fz 2) ees_nil))) ees_nil)))) (eg_tup c.calm (egs_cons 4 (by decide) c.nd rfl (by first | exact Or.inl rfl | exact Or.inr rfl) (egs_cons 5 (by decide) c.nd rfl (by first | exact Or.inl rfl | exact Or.inr rfl) egs_nil)) rfl rfl (cg_cons (cg_cons cg_nil))) (ess_cons (es_if (ew_or (et_cmp op_gt pr_gt (eas_p (ev_bi call_len pr_len B.m_len boot_len_ (eas_p (ep_pk 5) eas_nil)).p (eas_p ev_int.p eas_nil)) (nomark _)) (ew_or (ew_and (et_cmp (op_eq2 c.hr.units) pr_eq (eas_p (ep_pk 4) (eas_p ev_str.p eas_nil)) (nomark _)) (ew_and1 (et_cmp (op_eq2 c.hr.units) pr_eq (eas_p (ev_bi call_len pr_len B.m_len boot_len_ (eas_p (ep_pk 5) eas_nil)).p (eas_p ev_int.p eas_nil)) (nomark _)))).t (ew_or1 (et_cmp op_lt pr_lt (eas_p (ev_lenSetT c.calm (ep_pk 5) B.m_len B.m_set).p (eas_p (ev_bi call_len pr_len B.m_len boot_len_ (eas_p (ep_pk 5) eas_nil)).p eas_nil)) (nomark _))))).t (ess_one (es_ret (ev_mv 4))) ess_nil)
    (ess_one (es_if (et_not (et_val (ev_bi (cr_all c.calm) pr_all B.m_all boot_all_ (eas_p (ev_comp c (own := [("_law_name", 6)]) (ei_seq (ev_fz 5)) (blkOk_by (by kernel_rfl)) (fun bi => (eb_name 6 (by decide) (c.blk _ bi).nd rfl (by first | exact Or.inl rfl | exact Or.inr rfl))) (fun bi => ec_yes) (fun bi => (ev_call (c.blk _ bi) C_law_is_name (by omega) (by rfl) (eu_sl 6 eu_nil)))).1.p eas_nil)))) (ess_one (es_ret (ev_mv 4))) ess_nil))))
    (ess_cons (es_if (ew_or (et_cmp op_gt pr_gt (eas_p (ev_bi call_len pr_len B.m_len boot_len_ (eas_p (ep_pk 3) eas_nil)).p (eas_p ev_int.p eas_nil)) (nomark _)) (ew_or1 (et_not (et_val (ev_bi (cr_all c.calm) pr_all B.m_all boot_all_ (eas_p (ev_comp c (own := [("_law_fact_here", 7)]) (ei_seq (ev_fz 3)) (blkOk_by (by kernel_rfl)) (fun bi => (eb_name 7 (by decide) (c.blk _ bi).nd rfl (by first | exact Or.inl rfl | exact Or.inr rfl))) (fun bi => ec_yes) (fun bi => (ev_call (c.blk _ bi) C_law_there (by omega) (by rfl) (eu_sl 0 (eu_sl 7 eu_nil))))).1.p eas_nil)))))).t (ess_one (es_ret ev_str)) ess_nil)
    (ess_one (es_ret ev_non)))))
theorem sc_law_bad_name : FnScope ["_law_box_here", "_law_names_here", "_law_signs", "_law_word", "_law_kind", "_law_at", "_law_k"] ["_law_box_here", "_law_names_here"] (defScope (topS 38)) := ⟨rfl, rfl, rfl, by decide +kernel, rfl, by decide +kernel, by decide +kernel⟩
theorem ok_law_bad_name {P : Program} {w : World} {K : PySem.W.Frag} {mg : Str → Option Value} {base : Heap} (B : Nm K mg) (C_law_take : Callee P w K mg base "_law_take" 1 2 [] G.f_law_take) {a : Addr} {fd : FuncData} (F : Fun K "_law_bad_name" "_law_bad_name" (topS 38) a fd) :
    FnG P w K mg base (L2.CX P w) 2 a fd ["_law_box_here", "_law_names_here"] (spF K mg 2 f_law_bad_name) :=
  fnRule 2 F sc_law_bad_name (by decide) fun cdv A outer s H E c =>
    (ess_cons (es_set 2 (by decide) c.nd rfl (by first | exact Or.inl rfl | exact Or.inr rfl) (ev_op op_add4 pr_add (eas_p ev_str.p (eas_p ev_str.p eas_nil))))
    (ess_cons (es_set 3 (by decide) c.nd rfl (by first | exact Or.inl rfl | exact Or.inr rfl) (ev_join ev_str (ev_comp c (own := [("_law_k", 6)]) (ei_range1 (ees_cons (ev_op op_add4 pr_add (eas_e ev_int (eas_p (ev_call c C_law_take (by omega) (by rfl) (eu_sl 0 (eu_val ev_int eu_nil))).p eas_nil))) ees_nil) (by rfl) B.m_range) (blkOk_by (by kernel_rfl)) (fun bi => (eb_name 6 (by decide) (c.blk _ bi).nd rfl (by first | exact Or.inl rfl | exact Or.inr rfl))) (fun bi => ec_yes) (fun bi => (ev_ix ix_seq pr_ix (eas_e ev_str (eas_p (ev_call (c.blk _ bi) C_law_take (by omega) (by rfl) (eu_sl 0 (eu_val ev_int eu_nil))).p eas_nil))))).1.p))
    (ess_cons (es_set 4 (by decide) c.nd rfl (by first | exact Or.inl rfl | exact Or.inr rfl) (ev_call c C_law_take (by omega) (by rfl) (eu_sl 0 (eu_val ev_int eu_nil))))
    (ess_cons (es_if (et_cmp (op_eq2 c.hr.units) pr_eq (eas_p (ep_pk 4) (eas_p ev_int.p eas_nil)) (nomark _)) (ess_cons (es_set 5 (by decide) c.nd rfl (by first | exact Or.inl rfl | exact Or.inr rfl) (ev_call c C_law_take (by omega) (by rfl) (eu_sl 0 (eu_val (ev_bi call_len pr_len B.m_len boot_len_ (eas_p (ep_pk 3) eas_nil)) eu_nil))))
    (ess_one (es_ret (ev_op op_add4 pr_add (eas_p (ev_op op_add4 pr_add (eas_e (ev_slHi (eas_p (ep_pk 3) (eas_p (ep_pk 5) eas_nil))) (eas_p (ev_ix ix_seq pr_ix (eas_e (ev_fz 2) (eas_p (ev_call c C_law_take (by omega) (by rfl) (eu_sl 0 (eu_val (ev_bi call_len pr_len B.m_len boot_len_ (eas_p (ep_pk 2) eas_nil)) eu_nil))).p eas_nil))).p eas_nil))).p (eas_p (ev_slLo (eas_p (ep_pk 3) (eas_p (ev_op op_add4 pr_add (eas_p (ep_pk 5) (eas_p ev_int.p eas_nil))).p eas_nil))).p eas_nil)))))) ess_nil)
    (ess_cons (es_if (et_cmp (op_eq2 c.hr.units) pr_eq (eas_p (ep_pk 4) (eas_p ev_int.p eas_nil)) (nomark _)) (ess_one (es_ret (ev_ix ix_seq pr_ix (eas_e (ev_lst (ees_cons ev_str (ees_cons ev_str (ees_cons ev_str (ees_cons ev_str (ees_cons ev_str (ees_cons ev_str (ees_cons ev_str (ees_cons ev_str (ees_cons ev_str (ees_cons ev_str (ees_cons ev_str (ees_cons ev_str (ees_cons ev_str (ees_cons ev_str (ees_cons ev_str (ees_cons ev_str (ees_cons ev_str (ees_cons ev_str (ees_cons ev_str (ees_cons ev_str ees_nil))))))))))))))))))))) (eas_p (ev_call c C_law_take (by omega) (by rfl) (eu_sl 0 (eu_val ev_int eu_nil))).p eas_nil))))) ess_nil)
    (ess_cons (es_if (ew_and (et_cmp (op_eq2 c.hr.units) pr_eq (eas_p (ep_pk 4) (eas_p ev_int.p eas_nil)) (nomark _)) (ew_and1 (et_cmp op_gt pr_gt (eas_p (ev_bi call_len pr_len B.m_len boot_len_ (eas_p (ep_pk 1) eas_nil)).p (eas_p ev_int.p eas_nil)) (nomark _)))).t (ess_one (es_ret (ev_ix ix_seq pr_ix (eas_e (ev_fz 1) (eas_p (ev_call c C_law_take (by omega) (by rfl) (eu_sl 0 (eu_val (ev_bi call_len pr_len B.m_len boot_len_ (eas_p (ep_pk 1) eas_nil)) eu_nil))).p eas_nil))))) ess_nil)
    (ess_one (es_ret (ev_mv 3)))))))))
theorem sc_law_row_otherwise : FnScope ["_law_box_here", "_law_names_here", "_law_at", "_law_kind"] ["_law_box_here", "_law_names_here"] (defScope (topS 39)) := ⟨rfl, rfl, rfl, by decide +kernel, rfl, by decide +kernel, by decide +kernel⟩
theorem ok_law_row_otherwise {P : Program} {w : World} {K : PySem.W.Frag} {mg : Str → Option Value} {base : Heap} (B : Nm K mg) (C_law_take : Callee P w K mg base "_law_take" 1 2 [] G.f_law_take) (C_law_bad_name : Callee P w K mg base "_law_bad_name" 2 2 [] f_law_bad_name) {a : Addr} {fd : FuncData} (F : Fun K "_law_row_otherwise" "_law_row_otherwise" (topS 39) a fd) :
    FnG P w K mg base (L2.CX P w) 3 a fd ["_law_box_here", "_law_names_here"] (spF K mg 2 f_law_row_otherwise) :=
  fnRule 2 F sc_law_row_otherwise (by decide) fun cdv A outer s H E c =>
    (ess_cons (es_set 2 (by decide) c.nd rfl (by first | exact Or.inl rfl | exact Or.inr rfl) (ev_call c C_law_take (by omega) (by rfl) (eu_sl 0 (eu_val (ev_op op_add4 pr_add (eas_p (ev_bi call_len pr_len B.m_len boot_len_ (eas_p (ep_pk 1) eas_nil)).p (eas_p ev_int.p eas_nil))) eu_nil))))
    (ess_cons (es_set 3 (by decide) c.nd rfl (by first | exact Or.inl rfl | exact Or.inr rfl) (ev_call c C_law_take (by omega) (by rfl) (eu_sl 0 (eu_val ev_int eu_nil))))
    (ess_cons (es_if (et_cmp (op_eq2 c.hr.units) pr_eq (eas_p (ep_pk 3) (eas_p ev_int.p eas_nil)) (nomark _)) (ess_one (es_ret (ev_op op_add4 pr_add (eas_p (ev_slHi (eas_p (ep_pk 1) (eas_p (ep_pk 2) eas_nil))).p (eas_p (ev_slLo (eas_p (ep_pk 1) (eas_p (ev_op op_add4 pr_add (eas_p (ep_pk 2) (eas_p ev_int.p eas_nil))).p eas_nil))).p eas_nil))))) ess_nil)
    (ess_cons (es_if (et_cmp (op_eq2 c.hr.units) pr_eq (eas_p (ep_pk 3) (eas_p ev_int.p eas_nil)) (nomark _)) (ess_one (es_ret (ev_op op_add4 pr_add (eas_p (ev_op op_add4 pr_add (eas_e (ev_slHi (eas_p (ep_pk 1) (eas_p (ep_pk 2) eas_nil))) (eas_p (ev_tup (ees_cons (ev_call c C_law_bad_name (by omega) (by rfl) (eu_sl 0 (eu_sl 1 eu_nil))) ees_nil)).p eas_nil))).p (eas_p (ev_slLo (eas_p (ep_pk 1) (eas_p (ep_pk 2) eas_nil))).p eas_nil))))) ess_nil)
    (ess_cons (es_if (et_cmp (op_eq2 c.hr.units) pr_eq (eas_p (ep_pk 3) (eas_p ev_int.p eas_nil)) (nomark _)) (ess_one (es_ret (ev_op op_add4 pr_add (eas_p (ev_op op_add4 pr_add (eas_e (ev_slHi (eas_p (ep_pk 1) (eas_p (ep_pk 2) eas_nil))) (eas_p (ev_tup (ees_cons (ev_call c C_law_bad_name (by omega) (by rfl) (eu_sl 0 (eu_sl 1 eu_nil))) ees_nil)).p eas_nil))).p (eas_p (ev_slLo (eas_p (ep_pk 1) (eas_p (ev_op op_add4 pr_add (eas_p (ep_pk 2) (eas_p ev_int.p eas_nil))).p eas_nil))).p eas_nil))))) ess_nil)
    (ess_one (es_ret (ev_slHi (eas_e (ev_fz 1) (eas_p (ev_call c C_law_take (by omega) (by rfl) (eu_sl 0 (eu_val ev_int eu_nil))).p eas_nil))))))))))
theorem sc_law_otherwise : FnScope ["_law_box_here", "_law_book_here", "_law_asks", "_law_deeds", "_law_facts", "_law_kind", "_law_at", "_law_more", "_law_others", "_law_k", "_law_one"] ["_law_box_here", "_law_book_here"] (defScope (topS 40)) := ⟨rfl, rfl, rfl, by decide +kernel, rfl, by decide +kernel, by decide +kernel⟩
theorem ok_law_otherwise {P : Program} {w : World} {K : PySem.W.Frag} {mg : Str → Option Value} {base : Heap} (B : Nm K mg) (C_law_take : Callee P w K mg base "_law_take" 1 2 [] G.f_law_take) (C_law_fact : Callee P w K mg base "_law_fact" 16 3 [] G.f_law_fact) (C_law_row_otherwise : Callee P w K mg base "_law_row_otherwise" 3 2 [] f_law_row_otherwise) {a : Addr} {fd : FuncData} (F : Fun K "_law_otherwise" "_law_otherwise" (topS 40) a fd) :
    FnG P w K mg base (L2.CX P w) 17 a fd ["_law_box_here", "_law_book_here"] (spF K mg 2 f_law_otherwise) :=
  fnRule 2 F sc_law_otherwise (by decide) fun cdv A outer s H E c =>
    (ess_cons (es_asg (ev_fz 1) (eg_tup c.calm (egs_cons 2 (by decide) c.nd rfl (by first | exact Or.inl rfl | exact Or.inr rfl) (egs_cons 3 (by decide) c.nd rfl (by first | exact Or.inl rfl | exact Or.inr rfl) (egs_cons 4 (by decide) c.nd rfl (by first | exact Or.inl rfl | exact Or.inr rfl) egs_nil))) rfl rfl (cg_cons (cg_cons (cg_cons cg_nil)))))
    (ess_cons (es_set 5 (by decide) c.nd rfl (by first | exact Or.inl rfl | exact Or.inr rfl) (ev_call c C_law_take (by omega) (by rfl) (eu_sl 0 (eu_val ev_int eu_nil))))
    (ess_cons (es_if (et_cmp (op_eq2 c.hr.units) pr_eq (eas_p (ep_pk 5) (eas_p ev_int.p eas_nil)) (nomark _)) (ess_one (es_ret (ev_tup (ees_cons (ev_call c C_law_row_otherwise (by omega) (by rfl) (eu_sl 0 (eu_sl 2 eu_nil))) (ees_cons (ev_fz 3) (ees_cons (ev_fz 4) ees_nil)))))) ess_nil)
    (ess_cons (es_if (et_cmp (op_eq2 c.hr.units) pr_eq (eas_p (ep_pk 5) (eas_p ev_int.p eas_nil)) (nomark _)) (ess_one (es_ret (ev_tup (ees_cons (ev_fz 2) (ees_cons (ev_call c C_law_row_otherwise (by omega) (by rfl) (eu_sl 0 (eu_sl 3 eu_nil))) (ees_cons (ev_fz 4) ees_nil)))))) ess_nil)
    (ess_cons (es_set 6 (by decide) c.nd rfl (by first | exact Or.inl rfl | exact Or.inr rfl) (ev_call c C_law_take (by omega) (by rfl) (eu_sl 0 (eu_val (ev_op op_add4 pr_add (eas_p (ev_bi call_len pr_len B.m_len boot_len_ (eas_p (ep_pk 4) eas_nil)).p (eas_p ev_int.p eas_nil))) eu_nil))))
    (ess_cons (es_setLc 7 c (by decide) rfl rfl (sw_true rfl rfl rfl (by decide +kernel)) (own := [("_law_k", 9)]) (ei_range1 (ees_cons (ev_ix ix_seq pr_ix (eas_e (ev_lst (ees_cons ev_int (ees_cons ev_int (ees_cons ev_int ees_nil)))) (eas_p (ev_call c C_law_take (by omega) (by rfl) (eu_sl 0 (eu_val ev_int eu_nil))).p eas_nil))) ees_nil) (by rfl) B.m_range) (blkOk_by (by kernel_rfl)) (fun bi => (eb_name 9 (by decide) (c.blk _ bi).nd rfl (by first | exact Or.inl rfl | exact Or.inr rfl))) (fun bi => ec_yes) (fun bi => (ev_call (c.blk _ bi) C_law_fact (by omega) (by rfl) (eu_sl 0 (eu_sl 2 (eu_val (ev_op op_add4 pr_add (eas_p (ep_pk 3) (eas_p (ev_tup (ees_cons ev_str ees_nil)).p eas_nil))) eu_nil))))))
    (ess_cons (es_if (et_cmp op_gt pr_gt (eas_p (ep_pk 5) (eas_p ev_int.p eas_nil)) (nomark _)) (ess_cons (es_set 8 (by decide) c.nd rfl (by first | exact Or.inl rfl | exact Or.inr rfl) (ev_tup (ees_cons (ev_op op_add4 pr_add (eas_p (ev_op op_add4 pr_add (eas_p (ep_pk 2) (eas_p (ev_tup (ees_cons ev_str ees_nil)).p eas_nil))).p (eas_p (ev_slHi (eas_p (ep_pk 3) (eas_p ev_int.p eas_nil))).p eas_nil))) (ees_cons (ev_op op_add4 pr_add (eas_p (ev_op op_add4 pr_add (eas_p (ep_pk 3) (eas_p (ev_tup (ees_cons ev_str ees_nil)).p eas_nil))).p (eas_p (ev_slHi (eas_p (ep_pk 2) (eas_p ev_int.p eas_nil))).p eas_nil))) ees_nil))))
    (ess_one (es_setLc 7 c (by decide) rfl rfl (sw_true rfl rfl rfl (by decide +kernel)) (own := [("_law_one", 10)]) (ei_seq (ev_fz 7)) (blkOk_by (by kernel_rfl)) (fun bi => (eb_name 10 (by decide) (c.blk _ bi).nd rfl (by first | exact Or.inl rfl | exact Or.inr rfl))) (fun bi => ec_yes) (fun bi => (ev_call (c.blk _ bi) C_law_fact (by omega) (by rfl) (eu_sl 0 (eu_val (ev_ix ix_seq pr_ix (eas_p (ep_pk 8) (eas_p ev_int.p eas_nil))) (eu_val (ev_ix ix_seq pr_ix (eas_p (ep_pk 8) (eas_p ev_int.p eas_nil))) eu_nil)))))))) ess_nil)
    (ess_cons (es_set 4 (by decide) c.nd rfl (by first | exact Or.inl rfl | exact Or.inr rfl) (ev_op op_add4 pr_add (eas_e (ev_op op_add4 pr_add (eas_p (ev_slHi (eas_p (ep_pk 4) (eas_p (ep_pk 6) eas_nil))).p (eas_p (ev_ty call_tupE pr_tup B.m_tuple boot_tuple_ (eas_p (ep_pk 7) eas_nil)).p eas_nil))) (eas_p (ev_slLo (eas_e (ev_fz 4) (eas_p (ev_op op_add4 pr_add (eas_e (ev_fz 6) (eas_p (ev_call c C_law_take (by omega) (by rfl) (eu_sl 0 (eu_val ev_int eu_nil))).p eas_nil))).p eas_nil))).p eas_nil))))
    (ess_one (es_ret (ev_tup (ees_cons (ev_fz 2) (ees_cons (ev_fz 3) (ees_cons (ev_slHi (eas_p (ep_pk 4) (eas_p ev_int.p eas_nil))) ees_nil))))))))))))))
theorem sc_law_told : FnScope ["_law_book_here", "_law_caught", "e"] ["_law_book_here"] (defScope (topS 41)) := ⟨rfl, rfl, rfl, by decide +kernel, rfl, by decide +kernel, by decide +kernel⟩
theorem ok_law_told {P : Program} {w : World} {K : PySem.W.Frag} {mg : Str → Option Value} {base : Heap} (B : Nm K mg) (C_look_book : Callee P w K mg base "look_book" 17 1 [] f_look_book) {a : Addr} {fd : FuncData} (F : Fun K "_law_told" "_law_told" (topS 41) a fd) :
    FnG P w K mg base (L2.CX P w) 18 a fd ["_law_book_here"] (spF K mg 1 f_law_told) :=
  fnRule 1 F sc_law_told (by decide) fun cdv A outer s H E c =>
    (ess_cons (es_set 1 (by decide) c.nd rfl (by first | exact Or.inl rfl | exact Or.inr rfl) ev_non)
    (ess_cons (es_tryH 2 c (by decide) B.hd_WayError (fun _ _ _ cT => (ess_one (es_if (et_cmp op_is_bl pr_isB (eas_p (ev_call cT C_look_book (by omega) (by rfl) (eu_sl 0 eu_nil)).p (eas_p ev_bl.p eas_nil)) (nomark _)) (ess_one (es_ret ev_str)) ess_nil))) (fun _ _ cU => (ess_one (es_set 1 (by decide) cU.nd rfl (by first | exact Or.inl rfl | exact Or.inr rfl) (ev_cp (ep_pk 2))))))
    (ess_cons (es_if (ew_or (et_not (et_val (ev_isx1 (ep_pk 1) B.m_isinstance B.is_NoBook))) (ew_or1 (et_val (ev_isxN (ep_pk 1) B.m_isinstance B.is_BadText_NoErrand_NoRow_NoWay_NoWorld_TooMany (.cons (by rfl) (by decide) (by decide) (by rfl) (.cons (by rfl) (by decide) (by decide) (by rfl) (.cons (by rfl) (by decide) (by decide) (by rfl) (.cons (by rfl) (by decide) (by decide) (by rfl) (.cons (by rfl) (by decide) (by decide) (by rfl) (.cons (by rfl) (by decide) (by decide) (by rfl) .nil)))))))))).t (ess_one (es_ret ev_str)) ess_nil)
    (ess_one (es_ret (ev_xfs (ep_pk 1) B.xf_word))))))
theorem sc_law : FnScope ["_law_script", "_law_good", "_law_k", "_law_box_here", "_law_book_here", "_law_due_here"] ["_law_script"] (defScope (topS 42)) := ⟨rfl, rfl, rfl, by decide +kernel, rfl, by decide +kernel, by decide +kernel⟩
theorem ok_law {P : Program} {w : World} {K : PySem.W.Frag} {mg : Str → Option Value} {base : Heap} (B : Nm K mg) (C_law_told : Callee P w K mg base "_law_told" 18 1 [] f_law_told) (C_law_due : Callee P w K mg base "_law_due" 16 1 [] f_law_due) (C_law_take : Callee P w K mg base "_law_take" 1 2 [] G.f_law_take) (C_law_otherwise : Callee P w K mg base "_law_otherwise" 17 2 [] f_law_otherwise) (C_law_box : Callee P w K mg base "_law_box" 1 2 [] G.f_law_box) (C_law_book : Callee P w K mg base "_law_book" 17 1 [] G.f_law_book) {a : Addr} {fd : FuncData} (F : Fun K "law" "law" (topS 42) a fd) :
    FnG P w K mg base (L2.CX P w) 19 a fd ["_law_script"] (spF K mg 1 f_law) :=
  fnRule 1 F sc_law (by decide) fun cdv A outer s H E c =>
    (ess_cons (es_set 1 (by decide) c.nd rfl (by first | exact Or.inl rfl | exact Or.inr rfl) (ev_call c C_law_book (by omega) (by rfl) (eu_val (ev_call c C_law_box (by omega) (by rfl) (eu_sl 0 (eu_val ev_int eu_nil))) eu_nil)))
    (ess_cons (es_for c (ei_range2 (ees_cons ev_int (ees_cons (ev_bi (call_max2 c.calm) pr_max2 B.m_max boot_max_ (eas_p ev_int.p (eas_p (ev_bi (call_min2 c.calm) pr_min2 B.m_min boot_min_ (eas_p ev_int.p (eas_p (ev_bi call_len pr_len B.m_len boot_len_ (eas_p (ep_pk 0) eas_nil)).p eas_nil))).p eas_nil))) ees_nil)) (by rfl) B.m_range) (eg_name 2 (by decide) c.nd rfl (by first | exact Or.inl rfl | exact Or.inr rfl)) (ess_cons (es_set 3 (by decide) c.nd rfl (by first | exact Or.inl rfl | exact Or.inr rfl) (ev_call c C_law_box (by omega) (by rfl) (eu_sl 0 (eu_sl 2 eu_nil))))
    (ess_cons (es_set 4 (by decide) c.nd rfl (by first | exact Or.inl rfl | exact Or.inr rfl) (ev_call c C_law_otherwise (by omega) (by rfl) (eu_sl 3 (eu_sl 1 eu_nil))))
    (ess_cons (es_if (ew_and (et_cmp (op_eq2 c.hr.units) pr_eq (eas_p (ev_call c C_law_take (by omega) (by rfl) (eu_sl 3 (eu_val ev_int eu_nil))).p (eas_p ev_int.p eas_nil)) (nomark _)) (ew_and1 (et_cmp op_gt pr_gt (eas_p (ev_bi call_len pr_len B.m_len boot_len_ (eas_p (ev_ix ix_seq pr_ix (eas_p (ep_pk 4) (eas_p ev_int.p eas_nil))).p eas_nil)).p (eas_p ev_int.p eas_nil)) (nomark _)))).t (ess_one (es_set 4 (by decide) c.nd rfl (by first | exact Or.inl rfl | exact Or.inr rfl) (ev_call c C_law_otherwise (by omega) (by rfl) (eu_sl 3 (eu_sl 4 eu_nil))))) ess_nil)
    (ess_cons (es_set 5 (by decide) c.nd rfl (by first | exact Or.inl rfl | exact Or.inr rfl) (ev_call c C_law_due (by omega) (by rfl) (eu_sl 4 eu_nil)))
    (ess_one (es_if (ew_or (et_cmp (op_ne2 c.hr.units) pr_ne (eas_p (ev_call c C_law_told (by omega) (by rfl) (eu_sl 4 eu_nil)).p (eas_p (ev_ix ix_seq pr_ix (eas_p (ev_lst (ees_cons (ev_rd 5) (ees_cons ev_str ees_nil))).p (eas_p (ev_ty call_int1 pr_int B.m_int boot_int_ (eas_p (ev_cmp op_isN pr_isN (eas_p (ep_pk 5) (eas_p ev_non.p eas_nil)) (nomark _)).p eas_nil)).p eas_nil))).p eas_nil)) (nomark _)) (ew_or1 (et_cmp (op_ne2 c.hr.units) pr_ne (eas_p (ev_call c C_law_told (by omega) (by rfl) (eu_sl 1 eu_nil)).p (eas_p ev_str.p eas_nil)) (nomark _)))).t (ess_one (es_ret ev_bl)) ess_nil)))))))
    (ess_one (es_ret ev_bl))))
theorem all_ok {P : Program} {w : World} {K : PySem.W.Frag} {mg : Str → Option Value} {fa : Addr} (hfa : mg "law" = some (.ref fa)) (B : Nm K mg) (D_NoBook_init : XMakAt K mg "NoBook" "NoBook.__init__" "word" (inClass (topS 3) 0)) (D_is_name : DefAt K mg "is_name" (topS 13)) (D_asked_in : DefAt K mg "asked_in" (topS 17)) (D_are_names : DefAt K mg "are_names" (topS 18)) (D_named_in : DefAt K mg "named_in" (topS 19)) (D_is_of : DefAt K mg "is_of" (topS 20)) (D_look_book : DefAt K mg "look_book" (topS 21)) (D_law_box : DefAt K mg "_law_box" (topS 23)) (D_law_take : DefAt K mg "_law_take" (topS 24)) (D_law_names : DefAt K mg "_law_names" (topS 25)) (D_law_test : DefAt K mg "_law_test" (topS 26)) (D_law_so : DefAt K mg "_law_so" (topS 27)) (D_law_rests : DefAt K mg "_law_rests" (topS 28)) (D_law_fits : DefAt K mg "_law_fits" (topS 29)) (D_law_kept : DefAt K mg "_law_kept" (topS 30)) (D_law_live : DefAt K mg "_law_live" (topS 31)) (D_law_fact : DefAt K mg "_law_fact" (topS 32)) (D_law_book : DefAt K mg "_law_book" (topS 33)) (D_law_is_name : DefAt K mg "_law_is_name" (topS 34)) (D_law_asked_in : DefAt K mg "_law_asked_in" (topS 35)) (D_law_there : DefAt K mg "_law_there" (topS 36)) (D_law_due : DefAt K mg "_law_due" (topS 37)) (D_law_bad_name : DefAt K mg "_law_bad_name" (topS 38)) (D_law_row_otherwise : DefAt K mg "_law_row_otherwise" (topS 39)) (D_law_otherwise : DefAt K mg "_law_otherwise" (topS 40)) (D_law_told : DefAt K mg "_law_told" (topS 41)) (D_law : DefAt K mg "law" (topS 42)) :
    ∃ fd : FuncData, (∀ (s : Shared) (u : Value), BindsTo s fd ⟨[u], []⟩ [("_law_script", u)]) ∧ ∀ base : Heap, FnG P w K mg base (L2.CX P w) 19 fa fd ["_law_script"] (spF K mg 1 f_law) := by
  obtain ⟨cc_NoBook_init, a_NoBook_init, fd_NoBook_init, m_NoBook_init, T_NoBook_init, i_NoBook_init, t_NoBook_init, n_NoBook_init, F_NoBook_init⟩ := D_NoBook_init.ex
  obtain ⟨a_is_name, fd_is_name, m_is_name, F_is_name⟩ := D_is_name.ex
  obtain ⟨a_asked_in, fd_asked_in, m_asked_in, F_asked_in⟩ := D_asked_in.ex
  obtain ⟨a_are_names, fd_are_names, m_are_names, F_are_names⟩ := D_are_names.ex
  obtain ⟨a_named_in, fd_named_in, m_named_in, F_named_in⟩ := D_named_in.ex
  obtain ⟨a_is_of, fd_is_of, m_is_of, F_is_of⟩ := D_is_of.ex
  obtain ⟨a_look_book, fd_look_book, m_look_book, F_look_book⟩ := D_look_book.ex
  obtain ⟨a_law_box, fd_law_box, m_law_box, F_law_box⟩ := D_law_box.ex
  obtain ⟨a_law_take, fd_law_take, m_law_take, F_law_take⟩ := D_law_take.ex
  obtain ⟨a_law_names, fd_law_names, m_law_names, F_law_names⟩ := D_law_names.ex
  obtain ⟨a_law_test, fd_law_test, m_law_test, F_law_test⟩ := D_law_test.ex
  obtain ⟨a_law_so, fd_law_so, m_law_so, F_law_so⟩ := D_law_so.ex
  obtain ⟨a_law_rests, fd_law_rests, m_law_rests, F_law_rests⟩ := D_law_rests.ex
  obtain ⟨a_law_fits, fd_law_fits, m_law_fits, F_law_fits⟩ := D_law_fits.ex
  obtain ⟨a_law_kept, fd_law_kept, m_law_kept, F_law_kept⟩ := D_law_kept.ex
  obtain ⟨a_law_live, fd_law_live, m_law_live, F_law_live⟩ := D_law_live.ex
  obtain ⟨a_law_fact, fd_law_fact, m_law_fact, F_law_fact⟩ := D_law_fact.ex
  obtain ⟨a_law_book, fd_law_book, m_law_book, F_law_book⟩ := D_law_book.ex
  obtain ⟨a_law_is_name, fd_law_is_name, m_law_is_name, F_law_is_name⟩ := D_law_is_name.ex
  obtain ⟨a_law_asked_in, fd_law_asked_in, m_law_asked_in, F_law_asked_in⟩ := D_law_asked_in.ex
  obtain ⟨a_law_there, fd_law_there, m_law_there, F_law_there⟩ := D_law_there.ex
  obtain ⟨a_law_due, fd_law_due, m_law_due, F_law_due⟩ := D_law_due.ex
  obtain ⟨a_law_bad_name, fd_law_bad_name, m_law_bad_name, F_law_bad_name⟩ := D_law_bad_name.ex
  obtain ⟨a_law_row_otherwise, fd_law_row_otherwise, m_law_row_otherwise, F_law_row_otherwise⟩ := D_law_row_otherwise.ex
  obtain ⟨a_law_otherwise, fd_law_otherwise, m_law_otherwise, F_law_otherwise⟩ := D_law_otherwise.ex
  obtain ⟨a_law_told, fd_law_told, m_law_told, F_law_told⟩ := D_law_told.ex
  obtain ⟨a_law, fd_law, m_law, F_law⟩ := D_law.ex
  have b_NoBook_init := F_NoBook_init.binds (ps := ["self", "word"]) fun _ _ _ _ _ _ us hl => match us, hl with | [_, _], _ => rfl
  have C_NoBook_init : ∀ base : Heap, XMak P w K mg base "NoBook" "word" := fun base => ⟨cc_NoBook_init, a_NoBook_init, fd_NoBook_init, ["self", "word"], m_NoBook_init, T_NoBook_init, i_NoBook_init, t_NoBook_init, n_NoBook_init, ok_NoBook_init B F_NoBook_init, b_NoBook_init⟩
  have b_is_name := F_is_name.binds (ps := ["text"]) fun _ _ _ _ _ _ us hl => match us, hl with | [_], _ => rfl
  have C_is_name : ∀ base : Heap, Callee P w K mg base "is_name" 1 1 [] f_is_name := fun base => ⟨a_is_name, fd_is_name, _, [], [], ok_is_name B F_is_name, m_is_name, F_is_name.kp, b_is_name, .nil, (fun _ => .nil)⟩
  have b_asked_in := F_asked_in.binds (ps := ["test"]) fun _ _ _ _ _ _ us hl => match us, hl with | [_], _ => rfl
  have C_asked_in : ∀ base : Heap, Callee P w K mg base "asked_in" 14 1 [] (f_asked_in 14) := fun base => ⟨a_asked_in, fd_asked_in, _, [], [], ok_asked_in B F_asked_in m_asked_in F_asked_in.kp b_asked_in 14, m_asked_in, F_asked_in.kp, b_asked_in, .nil, (fun _ => .nil)⟩
  have b_are_names := F_are_names.binds (ps := ["words", "least"]) fun _ _ _ _ _ _ us hl => match us, hl with | [_, _], _ => rfl
  have C_are_names : ∀ base : Heap, Callee P w K mg base "are_names" 2 2 [] f_are_names := fun base => ⟨a_are_names, fd_are_names, _, [], [], ok_are_names B (C_is_name base) F_are_names, m_are_names, F_are_names.kp, b_are_names, .nil, (fun _ => .nil)⟩
  have b_named_in := F_named_in.binds (ps := ["fact"]) fun _ _ _ _ _ _ us hl => match us, hl with | [_], _ => rfl
  have C_named_in : ∀ base : Heap, Callee P w K mg base "named_in" 15 1 [] f_named_in := fun base => ⟨a_named_in, fd_named_in, _, [], [], ok_named_in B (C_asked_in base) F_named_in, m_named_in, F_named_in.kp, b_named_in, .nil, (fun _ => .nil)⟩
  have b_is_of := F_is_of.binds (ps := ["book", "fact"]) fun _ _ _ _ _ _ us hl => match us, hl with | [_, _], _ => rfl
  have C_is_of : ∀ base : Heap, Callee P w K mg base "is_of" 16 2 [] f_is_of := fun base => ⟨a_is_of, fd_is_of, _, [], [], ok_is_of B (C_named_in base) F_is_of, m_is_of, F_is_of.kp, b_is_of, .nil, (fun _ => .nil)⟩
  have b_look_book := F_look_book.binds (ps := ["book"]) fun _ _ _ _ _ _ us hl => match us, hl with | [_], _ => rfl
  have C_look_book : ∀ base : Heap, Callee P w K mg base "look_book" 17 1 [] f_look_book := fun base => ⟨a_look_book, fd_look_book, _, [], [], ok_look_book B (C_is_of base) (C_NoBook_init base) (C_are_names base) F_look_book, m_look_book, F_look_book.kp, b_look_book, .nil, (fun _ => .nil)⟩
  have b_law_box := F_law_box.binds (ps := ["_law_script", "_law_k"]) fun _ _ _ _ _ _ us hl => match us, hl with | [_, _], _ => rfl
  have C_law_box : ∀ base : Heap, Callee P w K mg base "_law_box" 1 2 [] G.f_law_box := fun base => ⟨a_law_box, fd_law_box, _, [], [], ok_law_box B F_law_box, m_law_box, F_law_box.kp, b_law_box, .nil, (fun _ => .nil)⟩
  have b_law_take := F_law_take.binds (ps := ["_law_box_here", "_law_many"]) fun _ _ _ _ _ _ us hl => match us, hl with | [_, _], _ => rfl
  have C_law_take : ∀ base : Heap, Callee P w K mg base "_law_take" 1 2 [] G.f_law_take := fun base => ⟨a_law_take, fd_law_take, _, [], [], ok_law_take B F_law_take, m_law_take, F_law_take.kp, b_law_take, .nil, (fun _ => .nil)⟩
  have b_law_names := F_law_names.binds (ps := ["_law_box_here", "_law_many"]) fun _ _ _ _ _ _ us hl => match us, hl with | [_, _], _ => rfl
  have C_law_names : ∀ base : Heap, Callee P w K mg base "_law_names" 2 2 [] G.f_law_names := fun base => ⟨a_law_names, fd_law_names, _, [], [], ok_law_names B (C_law_take base) F_law_names, m_law_names, F_law_names.kp, b_law_names, .nil, (fun _ => .nil)⟩
  have b_law_test := F_law_test.binds (ps := ["_law_box_here", "_law_asks", "_law_left", "_law_down"]) fun _ _ _ _ _ _ us hl => match us, hl with | [_, _, _, _], _ => rfl
  have C_law_test : ∀ base : Heap, Callee P w K mg base "_law_test" 15 4 [] (G.f_law_test 14) := fun base => ⟨a_law_test, fd_law_test, _, [], [], ok_law_test B (C_law_take base) F_law_test m_law_test F_law_test.kp b_law_test 14, m_law_test, F_law_test.kp, b_law_test, .nil, (fun _ => .nil)⟩
  have b_law_so := F_law_so.binds (ps := ["_law_asks", "_law_test_here", "_law_n"]) fun _ _ _ _ _ _ us hl => match us, hl with | [_, _, _], _ => rfl
  have C_law_so : ∀ base : Heap, Callee P w K mg base "_law_so" 14 3 [] (G.f_law_so 14) := fun base => ⟨a_law_so, fd_law_so, _, [], [], ok_law_so B F_law_so m_law_so F_law_so.kp b_law_so 14, m_law_so, F_law_so.kp, b_law_so, .nil, (fun _ => .nil)⟩
  have b_law_rests := F_law_rests.binds (ps := ["_law_book_here", "_law_n", "_law_d"]) fun _ _ _ _ _ _ us hl => match us, hl with | [_, _, _], _ => rfl
  have C_law_rests : ∀ base : Heap, Callee P w K mg base "_law_rests" 1 3 [] G.f_law_rests := fun base => ⟨a_law_rests, fd_law_rests, _, [], [], ok_law_rests B F_law_rests, m_law_rests, F_law_rests.kp, b_law_rests, .nil, (fun _ => .nil)⟩
  have b_law_fits := F_law_fits.binds (ps := ["_law_book_here", "_law_n", "_law_d", "_law_still"]) fun _ _ _ _ _ _ us hl => match us, hl with | [_, _, _, _], _ => rfl
  have C_law_fits : ∀ base : Heap, Callee P w K mg base "_law_fits" 15 4 [] G.f_law_fits := fun base => ⟨a_law_fits, fd_law_fits, _, [], [], ok_law_fits B (C_law_so base) F_law_fits, m_law_fits, F_law_fits.kp, b_law_fits, .nil, (fun _ => .nil)⟩
  have b_law_kept := F_law_kept.binds (ps := ["_law_book_here", "_law_p"]) fun _ _ _ _ _ _ us hl => match us, hl with | [_, _], _ => rfl
  have C_law_kept : ∀ base : Heap, Callee P w K mg base "_law_kept" 1 2 [] G.f_law_kept := fun base => ⟨a_law_kept, fd_law_kept, _, [], [], ok_law_kept B F_law_kept, m_law_kept, F_law_kept.kp, b_law_kept, .nil, (fun _ => .nil)⟩
  have b_law_live := F_law_live.binds (ps := ["_law_book_here"]) fun _ _ _ _ _ _ us hl => match us, hl with | [_], _ => rfl
  have C_law_live : ∀ base : Heap, Callee P w K mg base "_law_live" 16 1 [] G.f_law_live := fun base => ⟨a_law_live, fd_law_live, _, [], [], ok_law_live B (C_law_kept base) (C_law_fits base) (C_law_rests base) F_law_live, m_law_live, F_law_live.kp, b_law_live, .nil, (fun _ => .nil)⟩
  have b_law_fact := F_law_fact.binds (ps := ["_law_box_here", "_law_asks", "_law_deeds"]) fun _ _ _ _ _ _ us hl => match us, hl with | [_, _, _], _ => rfl
  have C_law_fact : ∀ base : Heap, Callee P w K mg base "_law_fact" 16 3 [] G.f_law_fact := fun base => ⟨a_law_fact, fd_law_fact, _, [], [], ok_law_fact B (C_law_take base) (C_law_test base) F_law_fact, m_law_fact, F_law_fact.kp, b_law_fact, .nil, (fun _ => .nil)⟩
  have b_law_book := F_law_book.binds (ps := ["_law_box_here"]) fun _ _ _ _ _ _ us hl => match us, hl with | [_], _ => rfl
  have C_law_book : ∀ base : Heap, Callee P w K mg base "_law_book" 17 1 [] G.f_law_book := fun base => ⟨a_law_book, fd_law_book, _, [], [], ok_law_book B (C_law_take base) (C_law_live base) (C_law_fact base) (C_law_names base) F_law_book, m_law_book, F_law_book.kp, b_law_book, .nil, (fun _ => .nil)⟩
  have b_law_is_name := F_law_is_name.binds (ps := ["_law_text"]) fun _ _ _ _ _ _ us hl => match us, hl with | [_], _ => rfl
  have C_law_is_name : ∀ base : Heap, Callee P w K mg base "_law_is_name" 1 1 [] f_law_is_name := fun base => ⟨a_law_is_name, fd_law_is_name, _, [], [], ok_law_is_name B F_law_is_name, m_law_is_name, F_law_is_name.kp, b_law_is_name, .nil, (fun _ => .nil)⟩
  have b_law_asked_in := F_law_asked_in.binds (ps := ["_law_test_here"]) fun _ _ _ _ _ _ us hl => match us, hl with | [_], _ => rfl
  have C_law_asked_in : ∀ base : Heap, Callee P w K mg base "_law_asked_in" 14 1 [] (f_law_asked_in 14) := fun base => ⟨a_law_asked_in, fd_law_asked_in, _, [], [], ok_law_asked_in B F_law_asked_in m_law_asked_in F_law_asked_in.kp b_law_asked_in 14, m_law_asked_in, F_law_asked_in.kp, b_law_asked_in, .nil, (fun _ => .nil)⟩
  have b_law_there := F_law_there.binds (ps := ["_law_book_here", "_law_fact_here"]) fun _ _ _ _ _ _ us hl => match us, hl with | [_, _], _ => rfl
  have C_law_there : ∀ base : Heap, Callee P w K mg base "_law_there" 15 2 [] f_law_there := fun base => ⟨a_law_there, fd_law_there, _, [], [], ok_law_there B (C_law_asked_in base) F_law_there, m_law_there, F_law_there.kp, b_law_there, .nil, (fun _ => .nil)⟩
  have b_law_due := F_law_due.binds (ps := ["_law_book_here"]) fun _ _ _ _ _ _ us hl => match us, hl with | [_], _ => rfl
  have C_law_due : ∀ base : Heap, Callee P w K mg base "_law_due" 16 1 [] f_law_due := fun base => ⟨a_law_due, fd_law_due, _, [], [], ok_law_due B (C_law_there base) (C_law_is_name base) F_law_due, m_law_due, F_law_due.kp, b_law_due, .nil, (fun _ => .nil)⟩
  have b_law_bad_name := F_law_bad_name.binds (ps := ["_law_box_here", "_law_names_here"]) fun _ _ _ _ _ _ us hl => match us, hl with | [_, _], _ => rfl
  have C_law_bad_name : ∀ base : Heap, Callee P w K mg base "_law_bad_name" 2 2 [] f_law_bad_name := fun base => ⟨a_law_bad_name, fd_law_bad_name, _, [], [], ok_law_bad_name B (C_law_take base) F_law_bad_name, m_law_bad_name, F_law_bad_name.kp, b_law_bad_name, .nil, (fun _ => .nil)⟩
  have b_law_row_otherwise := F_law_row_otherwise.binds (ps := ["_law_box_here", "_law_names_here"]) fun _ _ _ _ _ _ us hl => match us, hl with | [_, _], _ => rfl
  have C_law_row_otherwise : ∀ base : Heap, Callee P w K mg base "_law_row_otherwise" 3 2 [] f_law_row_otherwise := fun base => ⟨a_law_row_otherwise, fd_law_row_otherwise, _, [], [], ok_law_row_otherwise B (C_law_take base) (C_law_bad_name base) F_law_row_otherwise, m_law_row_otherwise, F_law_row_otherwise.kp, b_law_row_otherwise, .nil, (fun _ => .nil)⟩
  have b_law_otherwise := F_law_otherwise.binds (ps := ["_law_box_here", "_law_book_here"]) fun _ _ _ _ _ _ us hl => match us, hl with | [_, _], _ => rfl
  have C_law_otherwise : ∀ base : Heap, Callee P w K mg base "_law_otherwise" 17 2 [] f_law_otherwise := fun base => ⟨a_law_otherwise, fd_law_otherwise, _, [], [], ok_law_otherwise B (C_law_take base) (C_law_fact base) (C_law_row_otherwise base) F_law_otherwise, m_law_otherwise, F_law_otherwise.kp, b_law_otherwise, .nil, (fun _ => .nil)⟩
  have b_law_told := F_law_told.binds (ps := ["_law_book_here"]) fun _ _ _ _ _ _ us hl => match us, hl with | [_], _ => rfl
  have C_law_told : ∀ base : Heap, Callee P w K mg base "_law_told" 18 1 [] f_law_told := fun base => ⟨a_law_told, fd_law_told, _, [], [], ok_law_told B (C_look_book base) F_law_told, m_law_told, F_law_told.kp, b_law_told, .nil, (fun _ => .nil)⟩
  have ea := hfa.symm.trans m_law
  cases ea
  have hF : ∀ base : Heap, FnG P w K mg base (L2.CX P w) 19 fa fd_law ["_law_script"] (spF K mg 1 f_law) := fun base => ok_law B (C_law_told base) (C_law_due base) (C_law_take base) (C_law_otherwise base) (C_law_box base) (C_law_book base) F_law
  refine ⟨fd_law, ?_, hF⟩
  obtain ⟨oc, od, kV, doc, pm, an, cdv, ct, osl, rfl, lk, hcd⟩ := F_law.ex
  exact fun s v => .of_eq rfl
end Lawk16
namespace Lawk16
open PySem PySem.Spec L2 Z G
local macro_rules | `(tactic| bv_omega) => `(tactic| repeat (first | with_reducible refine Stp.go ?_ | ((with_reducible refine Sd.mk ?_ ?_); focus (first | assumption | omega | exact Nat.zero_le _ | exact mulC_l | exact mulC_r | (simp only [List.length_cons, List.length_nil, List.length_map, List.length_append, Z.len_app]; omega) | (simp only [List.length_map, List.length_append, List.length_cons, List.length_nil, Z.intsF_len] at *; omega) | with_unfolding_all exact rfl | (refine powC_of ?_; omega) | assumption | exact List.mem_cons_self)) | with_reducible refine IfK.dt (by decide) ?_ | with_reducible refine IfK.df (by decide) ?_))
local macro_rules | `(tactic| array_get_dec) => `(tactic| repeat ((fail_if_success (with_reducible refine isJn ?_)); (first | with_reducible refine Stp.go ?_ | ((with_reducible refine Sd.mk ?_ ?_); focus (first | assumption | omega | exact Nat.zero_le _ | exact mulC_l | exact mulC_r | (simp only [List.length_cons, List.length_nil, List.length_map, List.length_append, Z.len_app]; omega) | (simp only [List.length_map, List.length_append, List.length_cons, List.length_nil, Z.intsF_len] at *; omega) | with_unfolding_all exact rfl | (refine powC_of ?_; omega) | assumption | exact List.mem_cons_self)) | with_reducible refine IfK.dt (by decide) ?_ | with_reducible refine IfK.df (by decide) ?_)))
local macro_rules | `(tactic| array_mem_dec) => `(tactic| (repeat' (first | (first | with_reducible refine Stp.go ?_ | ((with_reducible refine Sd.mk ?_ ?_); focus (first | assumption | omega | exact Nat.zero_le _ | exact mulC_l | exact mulC_r | (simp only [List.length_cons, List.length_nil, List.length_map, List.length_append, Z.len_app]; omega) | (simp only [List.length_map, List.length_append, List.length_cons, List.length_nil, Z.intsF_len] at *; omega) | with_unfolding_all exact rfl | (refine powC_of ?_; omega) | assumption | exact List.mem_cons_self)) | with_reducible refine IfK.dt (by decide) ?_ | with_reducible refine IfK.df (by decide) ?_) | refine IfK.dec (fun _ => ?_) (fun _ => ?_) | (refine CndK.mk ?_; first | rfl | (simp [*]; done) | (simp; omega) | (simp at *; done) | (simp at *; simp [*]; done) | (simp at *; omega)))))
local macro_rules | `(tactic| sizeOf_list_dec) => `(tactic| repeat ((fail_if_success (first | with_reducible refine isLc ?_ | with_reducible refine isFor ?_)); (first | with_reducible refine Stp.go ?_ | ((with_reducible refine Sd.mk ?_ ?_); focus (first | assumption | omega | exact Nat.zero_le _ | exact mulC_l | exact mulC_r | (simp only [List.length_cons, List.length_nil, List.length_map, List.length_append, Z.len_app]; omega) | (simp only [List.length_map, List.length_append, List.length_cons, List.length_nil, Z.intsF_len] at *; omega) | with_unfolding_all exact rfl | (refine powC_of ?_; omega) | assumption | exact List.mem_cons_self)) | with_reducible refine IfK.dt (by decide) ?_ | with_reducible refine IfK.df (by decide) ?_)))
def takS : List Str := ["yes", "no", "not", "and", "or", "done", "then", "if", "while", "either", "often", "asks", "deeds", "keeps", "makes", "rests", "idles", "still", "never"]
def sgB (c : Nat) : Bool := decide (97 ≤ c) && decide (c ≤ 122)
def nmB (w : Str) : Bool := decide (0 < w.length ∧ w.length ≤ 5) && !decide (w ∈ takS) && w.cps.toList.all sgB
theorem lets_mem (c : Nat) : decide (c ∈ ("abcdefghijklmnopqrstuvwxyz" : Str).cps.toList) = sgB c := by
  rw [show ("abcdefghijklmnopqrstuvwxyz" : Str).cps.toList = [97, 98, 99, 100, 101, 102, 103, 104, 105, 106, 107, 108, 109, 110, 111, 112, 113, 114, 115, 116, 117, 118, 119, 120, 121, 122] from rfl]
  unfold sgB
  rw [Bool.eq_iff_iff]
  simp only [List.mem_cons, List.not_mem_nil, or_false, decide_eq_true_eq, Bool.and_eq_true]
  omega
theorem bls {α : Type} (l : List α) (f : α → Bool) : (l.map fun q => O.d (.bool (f q))) = ((l.map f).map PyData.bool).map O.d := by rw [List.map_map, List.map_map]; rfl
theorem sg_signs (w : Str) : signs w = w.cps.toList.map fun c => PyData.str ⟨#[c]⟩ := rfl
theorem in_ch {c : Nat} {z : Str} {AO : O → Prop} (k : AO (.d (.bool (decide (c ∈ z.cps.toList))))) : optW (inF false [.d (.str ⟨#[c]⟩), .d (.str z)]) AO := k
theorem fw_isName {w : Str} (hw : w.length ≤ 1000) {A : O → List O → Prop} {B : Exn → Prop} (k : A (.d (.bool (nmB w))) [.d (.str w)]) : FW (f_is_name [.d (.str w)]) A B := by
  have hs : (signs w).length = w.length := by simp [signs, Str.length]
  unfold f_is_name
  with_reducible refine Stp.go ?_
  unfold g_is_name
  bv_omega
  have no : ¬ (0 < w.length ∧ w.length ≤ 5) → nmB w = false := fun h => by unfold nmB; rw [decide_eq_false h]; rfl
  refine IfK.dec (fun h1 => ?_) (fun h1 => ?_)
  · bv_omega
    refine IfK.dec (fun h2 => ?_) (fun h2 => ?_)
    · have h5 : 0 < w.length ∧ w.length ≤ 5 := by omega
      bv_omega
      refine IfK.mk (fun h3 => ?_) (fun h3 => ?_)
      · have e : nmB w = false := by unfold nmB; rw [show decide (w ∈ takS) = true from h3]; simp
        rw [e] at k
        bv_omega
        exact k
      · bv_omega
        rw [sg_signs]
        refine wp_lcF (fun c => PyData.str ⟨#[c]⟩) (fun c => .d (.bool (sgB c))) (fun c hc => ?_) ?_
        · bv_omega
          refine in_ch ?_
          rw [lets_mem]
          bv_omega
          trivial
        rw [List.nil_append, bls]
        bv_omega
        rw [List.all_map]
        have e : nmB w = w.cps.toList.all sgB := by unfold nmB; rw [show decide (w ∈ takS) = false from h3, decide_eq_true h5]; rfl
        rw [e] at k
        exact k
    · rw [no (by omega)] at k
      bv_omega
      exact k
  · rw [no (by omega)] at k
    bv_omega
    exact k
theorem le_sign (c : Nat) : (!decide (([c] : List Nat) < ("a" : Str).cps.toList) && !decide (("z" : Str).cps.toList < [c])) = sgB c := by
  rw [show ("a" : Str).cps.toList = [97] from rfl, show ("z" : Str).cps.toList = [122] from rfl]
  unfold sgB
  have h1 : ([c] : List Nat) < [97] ↔ c < 97 := by
    rw [List.cons_lt_cons_iff]; simp
  have h2 : ([122] : List Nat) < [c] ↔ 122 < c := by
    rw [List.cons_lt_cons_iff]; simp
  have d1 : decide (([c] : List Nat) < [97]) = decide (c < 97) := decide_eq_decide.mpr h1
  have d2 : decide (([122] : List Nat) < [c]) = decide (122 < c) := decide_eq_decide.mpr h2
  rw [d1, d2, Bool.eq_iff_iff]
  simp only [Bool.and_eq_true, Bool.not_eq_true', decide_eq_false_iff_not, decide_eq_true_eq]
  omega
theorem fw_lisName {w : Str} (hw : w.length ≤ 1000) {A : O → List O → Prop} {B : Exn → Prop} (k : A (.d (.bool (nmB w))) [.d (.str w)]) : FW (f_law_is_name [.d (.str w)]) A B := by
  have hs : (signs w).length = w.length := by simp [signs, Str.length]
  unfold f_law_is_name
  with_reducible refine Stp.go ?_
  unfold g_law_is_name
  bv_omega
  have no : ¬ (0 < w.length ∧ w.length ≤ 5) → nmB w = false := fun h => by unfold nmB; rw [decide_eq_false h]; rfl
  refine IfK.dec (fun h1 => ?_) (fun h1 => ?_)
  · bv_omega
    refine IfK.dec (fun h2 => ?_) (fun h2 => ?_)
    · have h5 : 0 < w.length ∧ w.length ≤ 5 := by omega
      bv_omega
      refine IfK.mk (fun h3 => ?_) (fun h3 => ?_)
      · have e : nmB w = false := by unfold nmB; rw [show decide (w ∈ takS) = true from h3]; simp
        rw [e] at k
        bv_omega
        exact k
      · bv_omega
        rw [sg_signs]
        refine wp_lcF (fun c => PyData.str ⟨#[c]⟩) (fun c => .d (.bool (sgB c))) (fun c hc => ?_) ?_
        · bv_omega
          have ls := le_sign c
          refine IfK.mk (fun h4 => ?_) (fun h4 => ?_)
          · bv_omega
            rw [show (⟨#[c]⟩ : Str).cps.toList = [c] from rfl] at h4
            rw [h4] at ls
            exact ⟨by rw [← ls]; rfl, rfl⟩
          · bv_omega
            rw [show (⟨#[c]⟩ : Str).cps.toList = [c] from rfl] at h4
            rw [h4] at ls
            exact ⟨by rw [← ls]; rfl, rfl⟩
        rw [List.nil_append, bls]
        bv_omega
        rw [List.all_map]
        have e : nmB w = w.cps.toList.all sgB := by unfold nmB; rw [show decide (w ∈ takS) = false from h3, decide_eq_true h5]; rfl
        rw [e] at k
        exact k
    · rw [no (by omega)] at k
      bv_omega
      exact k
  · rw [no (by omega)] at k
    bv_omega
    exact k
def tnm : Tst → List Str
  | .ask q => [q]
  | .not t => tnm t
  | .and a b => tnm a ++ tnm b
  | .or a b => tnm a ++ tnm b
  | _ => []
def inFact (b : Book) : Fact → Bool
  | .keeps p q => decide (p ∈ b.deeds) && decide (q ∈ b.asks)
  | .makes p q _ => decide (p ∈ b.deeds) && decide (q ∈ b.asks)
  | .rests p r => decide (p ∈ b.deeds) && decide (r ∈ b.deeds)
  | .idles q _ p => decide (q ∈ b.asks) && decide (p ∈ b.deeds)
  | .still p => decide (p ∈ b.deeds)
  | .never t => (tnm t).all fun q => decide (q ∈ b.asks)
def goodR (words : List Str) (least : Nat) : Bool := decide (least ≤ words.length ∧ words.length ≤ 3) && !decide ((ddS words).length < words.length) && words.all nmB
def dueB (b : Book) : Option Str :=
  if goodR b.asks 0 = false then some "asks" else if goodR b.deeds 1 = false then some "deeds" else if ¬ (b.facts.length ≤ 6 ∧ b.facts.all (inFact b) = true) then some "fact" else none
structure BB (b : Book) : Prop where
  ql : b.asks.length ≤ 100
  pl : b.deeds.length ≤ 100
  fl : b.facts.length ≤ 100
  qw : ∀ z ∈ b.asks, z.length ≤ 100
  pw : ∀ z ∈ b.deeds, z.length ≤ 100
  fk : ∀ t, Fact.never t ∈ b.facts → t.size ≤ 7 ∧ t.deep ≤ 7
theorem fw_areNames {ws : List Str} {least : Nat} (hl : ws.length ≤ 100) (hw : ∀ z ∈ ws, z.length ≤ 100) {A : O → List O → Prop} {B : Exn → Prop} (k : A (.d (.bool (goodR ws least))) [.d (.tuple (ws.map PyData.str)), .d (.int least)]) : FW (f_are_names [.d (.tuple (ws.map PyData.str)), .d (.int least)]) A B := by
  have l0 : (ws.map PyData.str).length = ws.length := List.length_map _
  unfold f_are_names
  with_reducible refine Stp.go ?_
  unfold g_are_names
  bv_omega
  have no : ¬ (least ≤ ws.length ∧ ws.length ≤ 3) → goodR ws least = false := fun h => by unfold goodR; rw [decide_eq_false h]; rfl
  refine IfK.dec (fun h1 => ?_) (fun h1 => ?_)
  · bv_omega
    refine IfK.dec (fun h2 => ?_) (fun h2 => ?_)
    · have h5 : least ≤ ws.length ∧ ws.length ≤ 3 := by omega
      bv_omega
      refine lset_of (by omega) ?_
      bv_omega
      refine IfK.dec (fun h3 => ?_) (fun h3 => ?_)
      · have e : goodR ws least = false := by unfold goodR; rw [decide_eq_true (by omega : (ddS ws).length < ws.length)]; simp
        rw [e] at k
        bv_omega
        exact k
      · bv_omega
        refine wp_lcF PyData.str (fun z => .d (.bool (nmB z))) (fun z hz => ?_) ?_
        · bv_omega
          with_reducible refine fw_isName (by have := hw z hz; omega) ?_
          bv_omega
          trivial
        rw [List.nil_append, bls]
        bv_omega
        rw [List.all_map]
        have e : goodR ws least = ws.all nmB := by unfold goodR; rw [decide_eq_true h5, decide_eq_false (by omega : ¬ (ddS ws).length < ws.length)]; rfl
        rw [e] at k
        exact k
    · rw [no (by omega)] at k
      bv_omega
      exact k
  · rw [no (by omega)] at k
    bv_omega
    exact k
theorem tnm_len : ∀ t : Tst, (tnm t).length ≤ t.size
  | .yes => by simp [tnm]
  | .no => by simp [tnm]
  | .ask q => by simp [tnm, Tst.size]
  | .not t => by have := tnm_len t; simp only [tnm, Tst.size]; omega
  | .and a b => by have := tnm_len a; have := tnm_len b; simp only [tnm, Tst.size, List.length_append]; omega
  | .or a b => by have := tnm_len a; have := tnm_len b; simp only [tnm, Tst.size, List.length_append]; omega
theorem fw_asked : ∀ {n : Nat} {t : Tst} {A : O → List O → Prop} {B : Exn → Prop}, t.deep ≤ n → t.size ≤ 100 → A (.lst (((tnm t).map PyData.str).map O.d)) [.d t.d] → FW (f_asked_in n [.d t.d]) A B
  | 0, t, _, _, h, _, _ => by cases t <;> simp [Tst.deep] at h
  | n + 1, t, A, B, h, hs, k => by
    have ih := @fw_asked n
    have tl := fun (u : Tst) => Nat.le_trans (Nat.le_of_eq (List.length_map (f := PyData.str) (as := tnm u))) (tnm_len u)
    have tl2 := fun (u : Tst) => Nat.le_trans (Nat.le_of_eq (List.length_map (f := O.d) (as := (tnm u).map PyData.str))) (tl u)
    refine fwRun ?_
    cases t with
    | ask q => simp only [Tst.d, tnm] at k ⊢; bv_omega; exact k
    | yes => simp only [Tst.d, tnm] at k ⊢; bv_omega; exact k
    | no => simp only [Tst.d, tnm] at k ⊢; bv_omega; exact k
    | not u =>
      simp only [Tst.d, tnm, Tst.deep, Tst.size] at k h hs ⊢
      have t1 := tl u
      have t2 := tl2 u
      bv_omega
      refine ih (by omega) (by omega) ?_
      bv_omega
      exact k
    | and a b =>
      simp only [Tst.d, tnm, Tst.deep, Tst.size, List.map_append] at k h hs ⊢
      have t1 := tl a
      have t2 := tl2 a
      have t3 := tl b
      have t4 := tl2 b
      bv_omega
      refine ih (by omega) (by omega) ?_
      bv_omega
      refine ih (by omega) (by omega) ?_
      bv_omega
      first | exact k | (rw [List.map_append]; exact k)
    | or a b =>
      simp only [Tst.d, tnm, Tst.deep, Tst.size, List.map_append] at k h hs ⊢
      have t1 := tl a
      have t2 := tl2 a
      have t3 := tl b
      have t4 := tl2 b
      bv_omega
      refine ih (by omega) (by omega) ?_
      bv_omega
      refine ih (by omega) (by omega) ?_
      bv_omega
      first | exact k | (rw [List.map_append]; exact k)
theorem fw_lasked : ∀ {n : Nat} {t : Tst} {A : O → List O → Prop} {B : Exn → Prop}, t.deep ≤ n → t.size ≤ 100 → A (.lst (((tnm t).map PyData.str).map O.d)) [.d t.d] → FW (f_law_asked_in n [.d t.d]) A B
  | 0, t, _, _, h, _, _ => by cases t <;> simp [Tst.deep] at h
  | n + 1, t, A, B, h, hs, k => by
    have ih := @fw_lasked n
    have tl := fun (u : Tst) => Nat.le_trans (Nat.le_of_eq (List.length_map (f := PyData.str) (as := tnm u))) (tnm_len u)
    have tl2 := fun (u : Tst) => Nat.le_trans (Nat.le_of_eq (List.length_map (f := O.d) (as := (tnm u).map PyData.str))) (tl u)
    refine fwRun ?_
    cases t with
    | ask q => simp only [Tst.d, tnm] at k ⊢; bv_omega; exact k
    | yes => simp only [Tst.d, tnm] at k ⊢; bv_omega; exact k
    | no => simp only [Tst.d, tnm] at k ⊢; bv_omega; exact k
    | not u =>
      simp only [Tst.d, tnm, Tst.deep, Tst.size] at k h hs ⊢
      have t1 := tl u
      have t2 := tl2 u
      bv_omega
      refine ih (by omega) (by omega) ?_
      bv_omega
      exact k
    | and a b =>
      simp only [Tst.d, tnm, Tst.deep, Tst.size, List.map_append] at k h hs ⊢
      have t1 := tl a
      have t2 := tl2 a
      have t3 := tl b
      have t4 := tl2 b
      bv_omega
      refine ih (by omega) (by omega) ?_
      bv_omega
      refine ih (by omega) (by omega) ?_
      bv_omega
      first | exact k | (rw [List.map_append]; exact k)
    | or a b =>
      simp only [Tst.d, tnm, Tst.deep, Tst.size, List.map_append] at k h hs ⊢
      have t1 := tl a
      have t2 := tl2 a
      have t3 := tl b
      have t4 := tl2 b
      bv_omega
      refine ih (by omega) (by omega) ?_
      bv_omega
      refine ih (by omega) (by omega) ?_
      bv_omega
      first | exact k | (rw [List.map_append]; exact k)
def nmP (f : Fact) : List Str := match f with
  | .keeps p _ => [p]
  | .makes p _ _ => [p]
  | .rests p r => [p, r]
  | .idles _ _ p => [p]
  | .still p => [p]
  | .never _ => []
def nmQ (f : Fact) : List Str := match f with
  | .keeps _ q => [q]
  | .makes _ q _ => [q]
  | .idles q _ _ => [q]
  | .never t => tnm t
  | _ => []
theorem inFact_nm (b : Book) (f : Fact) : (((nmP f).all fun p => decide (p ∈ b.deeds)) && ((nmQ f).all fun q => decide (q ∈ b.asks))) = inFact b f := by
  cases f <;> simp [nmP, nmQ, inFact, Bool.and_comm]
theorem nmP_len (f : Fact) : (nmP f).length ≤ 2 := by cases f <;> simp [nmP]
theorem fw_namedIn {f : Fact} (hf : ∀ t, f = .never t → t.size ≤ 7 ∧ t.deep ≤ 7) {A : O → List O → Prop} {B : Exn → Prop} (k : A (.tup [.lst (((nmP f).map PyData.str).map O.d), .lst (((nmQ f).map PyData.str).map O.d)]) [.d f.d]) : FW (f_named_in [.d f.d]) A B := by
  unfold f_named_in
  with_reducible refine Stp.go ?_
  unfold g_named_in
  cases f with
  | keeps p q => simp only [Fact.d, nmP, nmQ] at k ⊢; bv_omega; exact k
  | makes p q v => simp only [Fact.d, nmP, nmQ] at k ⊢; bv_omega; exact k
  | rests p r => simp only [Fact.d, nmP, nmQ] at k ⊢; bv_omega; exact k
  | idles q v p => simp only [Fact.d, nmP, nmQ] at k ⊢; bv_omega; exact k
  | still p => simp only [Fact.d, nmP, nmQ] at k ⊢; bv_omega; exact k
  | never t =>
    have h := hf t rfl
    simp only [Fact.d, nmP, nmQ] at k ⊢
    bv_omega
    refine fw_asked (by omega) (by omega) ?_
    bv_omega
    exact k
theorem fw_isOf {b : Book} {f : Fact} (hf : ∀ t, f = .never t → t.size ≤ 7 ∧ t.deep ≤ 7) {A : O → List O → Prop} {B : Exn → Prop} (k : A (.d (.bool (inFact b f))) [.d b.d, .d f.d]) : FW (f_is_of [.d b.d, .d f.d]) A B := by
  have l1 : ((nmP f).map PyData.str).length ≤ 2 := by rw [List.length_map]; exact nmP_len f
  have l2 : ((nmQ f).map PyData.str).length ≤ 8 := by
    rw [List.length_map]
    cases f with
    | never t => have := tnm_len t; have := (hf t rfl).1; show (tnm t).length ≤ 8; omega
    | _ => simp [nmQ]
  unfold f_is_of
  with_reducible refine Stp.go ?_
  unfold g_is_of
  bv_omega
  refine fw_namedIn hf ?_
  bv_omega
  refine wp_lcF PyData.str (fun p => .d (.bool (decide (p ∈ b.deeds)))) (fun z hz => ?_) ?_
  · bv_omega
    trivial
  rw [List.nil_append, bls]
  bv_omega
  rw [List.all_map]
  refine IfK.mk (fun h => ?_) (fun h => ?_)
  · bv_omega
    refine wp_lcF PyData.str (fun p => .d (.bool (decide (p ∈ b.asks)))) (fun z hz => ?_) ?_
    · bv_omega
      trivial
    rw [List.nil_append, bls]
    bv_omega
    rw [List.all_map]
    have e := inFact_nm b f
    rw [show ((nmP f).all fun p => decide (p ∈ b.deeds)) = true from h, Bool.true_and] at e
    rw [← e] at k
    exact k
  · bv_omega
    have e := inFact_nm b f
    rw [show ((nmP f).all fun p => decide (p ∈ b.deeds)) = false from h, Bool.false_and] at e
    rw [← e] at k
    exact k
theorem fw_look {b : Book} (hb : BB b) {A : O → List O → Prop} {B : Exn → Prop} (k1 : dueB b = none → A (.d (.bool true)) [.d b.d]) (k2 : ∀ w, dueB b = some w → B ⟨"NoBook", [("word", .str w)]⟩) : FW (f_look_book [.d b.d]) A B := by
  have l0 : (b.facts.map Fact.d).length = b.facts.length := List.length_map _
  have fl := hb.fl
  unfold dueB at k1 k2
  unfold f_look_book
  with_reducible refine Stp.go ?_
  unfold g_look_book
  bv_omega
  refine fw_areNames (least := 0) hb.ql hb.qw ?_
  bv_omega
  refine IfK.mk (fun g1 => ?_) (fun g1 => ?_)
  · rw [if_neg (by rw [g1]; simp)] at k1 k2
    bv_omega
    refine fw_areNames (least := 1) hb.pl hb.pw ?_
    bv_omega
    refine IfK.mk (fun g2 => ?_) (fun g2 => ?_)
    · rw [if_neg (by rw [g2]; simp)] at k1 k2
      bv_omega
      refine IfK.dec (fun g3 => ?_) (fun g3 => ?_)
      · rw [if_pos (by omega)] at k2
        bv_omega
        exact k2 _ rfl
      · bv_omega
        refine wp_lcF Fact.d (fun f => .d (.bool (inFact b f))) (fun f hf => ?_) ?_
        · bv_omega
          with_reducible refine fw_isOf (fun t e => hb.fk t (e ▸ hf)) ?_
          bv_omega
          trivial
        rw [List.nil_append, bls]
        bv_omega
        rw [List.all_map]
        refine IfK.mk (fun g4 => ?_) (fun g4 => ?_)
        · have g4 : b.facts.all (inFact b) = true := g4
          rw [if_neg (by rw [g4]; simp; omega)] at k1
          bv_omega
          exact k1 rfl
        · have g4 : b.facts.all (inFact b) = false := g4
          rw [if_pos (by rw [g4]; simp)] at k2
          bv_omega
          exact k2 _ rfl
    · rw [if_pos g2] at k2
      bv_omega
      exact k2 _ rfl
  · rw [if_pos g1] at k2
    bv_omega
    exact k2 _ rfl
theorem fw_there {b : Book} {f : Fact} (hf : ∀ t, f = .never t → t.size ≤ 7 ∧ t.deep ≤ 7) {A : O → List O → Prop} {B : Exn → Prop} (k : A (.d (.bool (inFact b f))) [.d b.d, .d f.d]) : FW (f_law_there [.d b.d, .d f.d]) A B := by
  unfold f_law_there
  with_reducible refine Stp.go ?_
  unfold g_law_there
  cases f with
  | keeps p q =>
    simp only [Fact.d, inFact] at k ⊢
    bv_omega
    refine IfK.mk (fun h => ?_) (fun h => ?_)
    · rw [h, Bool.true_and] at k
      bv_omega
      exact k
    · rw [h, Bool.false_and] at k
      bv_omega
      exact k
  | makes p q v =>
    simp only [Fact.d, inFact] at k ⊢
    bv_omega
    refine IfK.mk (fun h => ?_) (fun h => ?_)
    · rw [h, Bool.true_and] at k
      bv_omega
      exact k
    · rw [h, Bool.false_and] at k
      bv_omega
      exact k
  | rests p r =>
    simp only [Fact.d, inFact] at k ⊢
    bv_omega
    refine IfK.mk (fun h => ?_) (fun h => ?_)
    · rw [h, Bool.true_and] at k
      bv_omega
      exact k
    · rw [h, Bool.false_and] at k
      bv_omega
      exact k
  | idles q v p =>
    simp only [Fact.d, inFact] at k ⊢
    bv_omega
    refine IfK.mk (fun h => ?_) (fun h => ?_)
    · rw [h, Bool.true_and] at k
      bv_omega
      exact k
    · rw [h, Bool.false_and] at k
      bv_omega
      exact k
  | still p =>
    simp only [Fact.d, inFact] at k ⊢
    bv_omega
    refine IfK.mk (fun h => ?_) (fun h => ?_)
    · rw [h] at k
      bv_omega
      exact k
    · rw [h] at k
      bv_omega
      exact k
  | never t =>
    have h := hf t rfl
    simp only [Fact.d, inFact] at k ⊢
    have tl : ((tnm t).map PyData.str).length ≤ 8 := by rw [List.length_map]; have := tnm_len t; omega
    bv_omega
    refine fw_lasked (by omega) (by omega) ?_
    bv_omega
    refine wp_lcF PyData.str (fun p => .d (.bool (decide (p ∈ b.asks)))) (fun z hz => ?_) ?_
    · bv_omega
      trivial
    rw [List.nil_append, bls]
    bv_omega
    rw [List.all_map]
    exact k
def dueD : Option Str → PyData
  | none => .none
  | some w => .str w
theorem fw_ldue {b : Book} (hb : BB b) {A : O → List O → Prop} {B : Exn → Prop} (k : A (.d (dueD (dueB b))) [.d b.d]) : FW (f_law_due [.d b.d]) A B := by
  have lf : (b.facts.map Fact.d).length = b.facts.length := List.length_map _
  have lq : (b.asks.map PyData.str).length = b.asks.length := List.length_map _
  have lp : (b.deeds.map PyData.str).length = b.deeds.length := List.length_map _
  have fl := hb.fl
  have ql := hb.ql
  have pl := hb.pl
  unfold dueB at k
  unfold f_law_due
  with_reducible refine Stp.go ?_
  unfold g_law_due
  bv_omega
  have badL : ∀ {ws : List Str} {n : Nat}, ¬ (n ≤ ws.length ∧ ws.length ≤ 3) → goodR ws n = false := fun h => by unfold goodR; rw [decide_eq_false h]; rfl
  have badD : ∀ {ws : List Str} {n : Nat}, (ddS ws).length < ws.length → goodR ws n = false := fun h => by unfold goodR; rw [decide_eq_true h]; simp
  have okN : ∀ {ws : List Str} {n : Nat}, (n ≤ ws.length ∧ ws.length ≤ 3) → ¬ (ddS ws).length < ws.length → goodR ws n = ws.all nmB := fun h1 h2 => by unfold goodR; rw [decide_eq_true h1, decide_eq_false h2]; rfl
  refine IfK.dec (fun h1 => ?_) (fun h1 => ?_)
  · rw [if_pos (badL (by omega))] at k
    bv_omega
    exact k
  · bv_omega
    refine lset_of (by omega) ?_
    bv_omega
    refine IfK.dec (fun h2 => ?_) (fun h2 => ?_)
    · rw [if_pos (badD (by omega))] at k
      bv_omega
      exact k
    · bv_omega
      refine wp_lcF PyData.str (fun z => .d (.bool (nmB z))) (fun z hz => ?_) ?_
      · bv_omega
        with_reducible refine fw_lisName (by have := hb.qw z hz; omega) ?_
        bv_omega
        trivial
      rw [List.nil_append, bls]
      bv_omega
      rw [List.all_map]
      refine IfK.mk (fun h3 => ?_) (fun h3 => ?_)
      · rw [if_neg (by rw [okN ⟨Nat.zero_le _, by omega⟩ (by omega), show b.asks.all nmB = true from h3]; simp)] at k
        bv_omega
        refine IfK.dec (fun h4 => ?_) (fun h4 => ?_)
        · rw [if_pos (badL (by omega))] at k
          bv_omega
          exact k
        · bv_omega
          refine IfK.dec (fun h5 => ?_) (fun h5 => ?_)
          · rw [if_pos (badL (by omega))] at k
            bv_omega
            exact k
          · bv_omega
            refine lset_of (by omega) ?_
            bv_omega
            refine IfK.dec (fun h6 => ?_) (fun h6 => ?_)
            · rw [if_pos (badD (by omega))] at k
              bv_omega
              exact k
            · bv_omega
              refine wp_lcF PyData.str (fun z => .d (.bool (nmB z))) (fun z hz => ?_) ?_
              · bv_omega
                with_reducible refine fw_lisName (by have := hb.pw z hz; omega) ?_
                bv_omega
                trivial
              rw [List.nil_append, bls]
              bv_omega
              rw [List.all_map]
              refine IfK.mk (fun h7 => ?_) (fun h7 => ?_)
              · rw [if_neg (by rw [okN ⟨by omega, by omega⟩ (by omega), show b.deeds.all nmB = true from h7]; simp)] at k
                bv_omega
                refine IfK.dec (fun h8 => ?_) (fun h8 => ?_)
                · rw [if_pos (by omega)] at k
                  bv_omega
                  exact k
                · bv_omega
                  refine wp_lcF Fact.d (fun f => .d (.bool (inFact b f))) (fun f hf => ?_) ?_
                  · bv_omega
                    with_reducible refine fw_there (fun t e => hb.fk t (e ▸ hf)) ?_
                    bv_omega
                    trivial
                  rw [List.nil_append, bls]
                  bv_omega
                  rw [List.all_map]
                  refine IfK.mk (fun g4 => ?_) (fun g4 => ?_)
                  · have g4 : b.facts.all (inFact b) = true := g4
                    rw [if_neg (by rw [g4]; simp; omega)] at k
                    bv_omega
                    exact k
                  · have g4 : b.facts.all (inFact b) = false := g4
                    rw [if_pos (by rw [g4]; simp)] at k
                    bv_omega
                    exact k
              · rw [if_pos (by rw [okN ⟨by omega, by omega⟩ (by omega)]; exact h7)] at k
                bv_omega
                exact k
      · rw [if_pos (by rw [okN ⟨Nat.zero_le _, by omega⟩ (by omega)]; exact h3)] at k
        bv_omega
        exact k
def toldD : Option Str → PyData
  | none => .str "let by"
  | some w => .str w
theorem fw_told {b : Book} (hb : BB b) {A : O → List O → Prop} {B : Exn → Prop} (k : A (.d (toldD (dueB b))) [.d b.d]) : FW (f_law_told [.d b.d]) A B := by
  unfold f_law_told
  with_reducible refine Stp.go ?_
  unfold g_law_told
  bv_omega
  refine fw_look hb (fun h => ?_) (fun q h => ?_)
  · rw [h] at k
    bv_omega
    exact k
  · rw [h] at k
    bv_omega
    exact k
theorem fw_bad {ws : List Str} (hl : ws.length ≤ 100) (hw : ∀ z ∈ ws, z.length ≤ 100) {c s : Int} {A : O → List O → Prop} {B : Exn → Prop}
    (k : ∀ (z : Str) (c s : Int), z.length ≤ 100 → A (.d (.str z)) [.lst [.d (.int c), .d (.int s)], .d (.tuple (ws.map PyData.str))]) : FW (f_law_bad_name [.lst [.d (.int c), .d (.int s)], .d (.tuple (ws.map PyData.str))]) A B := by
  have lw : (ws.map PyData.str).length = ws.length := List.length_map _
  unfold f_law_bad_name
  with_reducible refine Stp.go ?_
  unfold g_law_bad_name
  have sl1 : (Str.ofString "abcdefghijklmnopqrstuvwxyzABCXYZ0189 _-(){|}~!/:;<=>?\x40[]^&*+,.#$").length ≤ 100 := by decide +kernel
  have sl2 : (Str.ofString "\n").length = 1 := by decide +kernel
  have slA := len_app (Str.ofString "abcdefghijklmnopqrstuvwxyzABCXYZ0189 _-(){|}~!/:;<=>?\x40[]^&*+,.#$") (Str.ofString "\n")
  array_get_dec
  generalize (Str.ofString "abcdefghijklmnopqrstuvwxyzABCXYZ0189 _-(){|}~!/:;<=>?\x40[]^&*+,.#$" ++ Str.ofString "\n") = S at slA
  bv_omega
  intro n c s n0 n1
  bv_omega
  refine wp_lcB PyData.str (fun z => z.length = 1) (fun g => ∃ c s : Int, g = [some (.lst [.d (.int c), .d (.int s)]), some (.d (.tuple (ws.map PyData.str))), some (.d (.str S)), none, none, none, none]) ?_ ?_ ⟨_, _, rfl⟩
  · intro l g hl2 hp hg
    obtain ⟨c, s, eg⟩ := hg
    rw [intsF_len] at hl2
    have z0 : (Str.ofString "").length = 0 := by decide
    have hsum : (l.map (·.length)).sum = l.length := by
      clear hl2
      induction l with
      | nil => rfl
      | cons a r ih => simp [hp a (by simp), ih fun z hz => hp z (by simp [hz])]; omega
    have hj : (Txt.join "" l).length = l.length := PySem.W.KT.join_ones l fun a m => hp a m
    subst eg
    bv_omega
    refine Sd.mk (by rw [hsum, z0]; omega) ?_
    generalize Txt.join "" l = z at hj
    have hz1 : 1 ≤ z.length := by omega
    have hz6 : z.length ≤ 6 := by omega
    bv_omega
    intro kd c s kd0 kd1
    bv_omega
    refine IfK.dec (fun h => ?_) (fun h => ?_)
    · bv_omega
      intro at1 c s a0 a1
      have l1 := len_cut z none (some at1)
      have l2 := len_cut z (some (at1 + 1)) none
      bv_omega
      intro r c s r0 r1
      bv_omega
      refine optW_ixS (by omega) r0 r1 fun q hq => ?_
      have l4 : (⟨#[q]⟩ : Str).length = 1 := rfl
      have l5 := len_app (cutS z none (some at1)) ⟨#[q]⟩
      have l6 := len_app (cutS z none (some at1) ++ ⟨#[q]⟩) (cutS z (some (at1 + 1)) none)
      bv_omega
      exact k _ c s (by omega)
    · bv_omega
      refine IfK.dec (fun h => ?_) (fun h => ?_)
      · bv_omega
        unfold LstK
        refine ⟨by decide, ?_⟩
        bv_omega
        intro r c s r0 r1
        bv_omega
        refine ix_any (e := PyData.str) (l := ((Str.ofString "") :: takS)) rfl r0 r1 fun y hy => ?_
        have hy2 : y.length ≤ 10 := by
          have : ∀ y ∈ ((Str.ofString "") :: takS), y.length ≤ 10 := by decide +kernel
          exact this y hy
        bv_omega
        exact k y c s (by omega)
      · bv_omega
        refine IfK.dec (fun h => ?_) (fun h => ?_)
        · bv_omega
          refine IfK.dec (fun h2 => ?_) (fun h2 => ?_)
          · bv_omega
            intro r c s r0 r1
            bv_omega
            refine ix_any (e := PyData.str) (l := ws) rfl r0 (by omega) fun y hy => ?_
            bv_omega
            exact k y c s (hw y hy)
          · bv_omega
            exact k z c s (by omega)
        · bv_omega
          exact k z c s (by omega)
  · intro d hd g hg
    obtain ⟨c, s, eg⟩ := hg
    subst eg
    bv_omega
    intro m c s h2 h3
    bv_omega
    refine optW_ixS (by decide) h2 h3 fun x hx => ?_
    exact ⟨⟨#[x]⟩, rfl, rfl, c, s, rfl⟩
theorem cut_le {α : Type} (l : List α) (lo hi : Option Int) : (cutD l lo hi).length ≤ l.length := by
  unfold cutD
  rw [List.length_take, List.length_drop]
  omega
theorem cut_mem {α : Type} {l : List α} {lo hi : Option Int} {x : α} (h : x ∈ cutD l lo hi) : x ∈ l := cutD_sub _ _ _ _ h
/-- few short names -/
structure NR (n : Nat) (ws : List Str) : Prop where
  le : ws.length ≤ n
  w : ∀ z ∈ ws, z.length ≤ 100
theorem fw_rowO {n : Nat} {ws : List Str} (hn : n ≤ 20) (hr : NR n ws) {c s : Int} {A : O → List O → Prop} {B : Exn → Prop}
    (k : ∀ (ws' : List Str) (c s : Int), NR (2 * n + 1) ws' → A (.d (.tuple (ws'.map PyData.str))) [.lst [.d (.int c), .d (.int s)], .d (.tuple (ws.map PyData.str))]) : FW (f_law_row_otherwise [.lst [.d (.int c), .d (.int s)], .d (.tuple (ws.map PyData.str))]) A B := by
  have hl := hr.le
  have lw : (ws.map PyData.str).length = ws.length := List.length_map _
  unfold f_law_row_otherwise
  with_reducible refine Stp.go ?_
  unfold g_law_row_otherwise
  bv_omega
  intro a c s a0 a1
  bv_omega
  intro kd c s kd0 kd1
  have q1 : (cutD (ws.map PyData.str) none (some a)).length ≤ 100 := Nat.le_trans (cut_le _ _ _) (by omega)
  have q2 : (cutD (ws.map PyData.str) (some a) none).length ≤ 100 := Nat.le_trans (cut_le _ _ _) (by omega)
  have q3 : (cutD (ws.map PyData.str) (some (a + 1)) none).length ≤ 100 := Nat.le_trans (cut_le _ _ _) (by omega)
  have cl := fun (lo hi : Option Int) => cut_le ws lo hi
  have cm := fun (lo hi : Option Int) (z : Str) (h : z ∈ cutD ws lo hi) => hr.w z (cut_mem h)
  have one : ∀ (z : Str) (lo hi : Option Int), z.length ≤ 100 → ∀ c s, A (.d (.tuple (cutD (ws.map PyData.str) none lo ++ [.str z] ++ cutD (ws.map PyData.str) hi none))) [.lst [.d (.int c), .d (.int s)], .d (.tuple (ws.map PyData.str))] := fun z lo hi hz c s => by
    have := k (cutD ws none lo ++ [z] ++ cutD ws hi none) c s ⟨by
      have := cl none lo; have := cl hi none
      simp only [List.length_append, List.length_singleton]; omega, fun y hy => by
      rcases List.mem_append.mp hy with hy | hy
      · rcases List.mem_append.mp hy with hy | hy
        · exact cm _ _ y hy
        · rw [List.mem_singleton.mp hy]; exact hz
      · exact cm _ _ y hy⟩
    rw [List.map_append, List.map_append, ← cutD_map, ← cutD_map] at this
    exact this
  bv_omega
  refine IfK.dec (fun h => ?_) (fun h => ?_)
  · bv_omega
    have := k (cutD ws none (some a) ++ cutD ws (some (a + 1)) none) c s ⟨by
      have := cl none (some a); have := cl (some (a + 1)) none
      simp only [List.length_append]; omega, fun y hy => by
      rcases List.mem_append.mp hy with hy | hy
      · exact cm _ _ y hy
      · exact cm _ _ y hy⟩
    rw [List.map_append, ← cutD_map, ← cutD_map] at this
    exact this
  · bv_omega
    refine IfK.dec (fun h => ?_) (fun h => ?_)
    · bv_omega
      with_reducible refine fw_bad (by omega) hr.w (fun z c s hz => ?_)
      bv_omega
      exact one z _ _ hz c s
    · bv_omega
      refine IfK.dec (fun h => ?_) (fun h => ?_)
      · bv_omega
        with_reducible refine fw_bad (by omega) hr.w (fun z c s hz => ?_)
        bv_omega
        exact one z _ _ hz c s
      · bv_omega
        intro r c s r0 r1
        bv_omega
        have := k (cutD ws none (some r)) c s ⟨by have := cl none (some r); omega, cm _ _⟩
        rw [← cutD_map] at this
        exact this
theorem cut8 {α : Type} (l : List α) : (cutD l none (some 8)).length ≤ 8 := by
  unfold cutD
  have e2 : HT.sIx l.length l.length (some 8) = min 8 l.length := by simpa using HT.sIx_nat (k := 8) (n := l.length) (d := l.length)
  rw [e2, List.length_take]
  omega
structure BK (n : Nat) (b : Book) : Prop where
  q : NR n b.asks
  p : NR n b.deeds
  fl : b.facts.length ≤ 8
  fk : ∀ t, Fact.never t ∈ b.facts → t.size ≤ 7 ∧ t.deep ≤ 7
def fOk (f : Fact) : Prop := ∀ t, f = .never t → t.size ≤ 7 ∧ t.deep ≤ 7
theorem over_ok {qs ps : List Str} {f : Fact} (h : f.over qs ps) : fOk f := fun t e => by
  subst e
  exact h.2
theorem NR.up {n m : Nat} {ws : List Str} (h : NR n ws) (hm : n ≤ m) : NR m ws := ⟨Nat.le_trans h.le hm, h.w⟩
theorem fw_otherwise {n : Nat} {b : Book} (hn : n ≤ 20) (hb : BK n b) {c s : Int} {A : O → List O → Prop} {B : Exn → Prop}
    (k : ∀ (b' : Book) (c s : Int), BK (2 * n + 1) b' → A (.d b'.d) [.lst [.d (.int c), .d (.int s)], .d b.d]) : FW (f_law_otherwise [.lst [.d (.int c), .d (.int s)], .d b.d]) A B := by
  have hql := hb.q.le
  have hpl := hb.p.le
  have hfl := hb.fl
  have lf : (b.facts.map Fact.d).length = b.facts.length := List.length_map _
  have lq : (b.asks.map PyData.str).length = b.asks.length := List.length_map _
  have lp : (b.deeds.map PyData.str).length = b.deeds.length := List.length_map _
  unfold f_law_otherwise
  with_reducible refine Stp.go ?_
  unfold g_law_otherwise
  bv_omega
  intro kd c s kd0 kd1
  bv_omega
  refine IfK.dec (fun h => ?_) (fun h => ?_)
  · bv_omega
    with_reducible refine fw_rowO hn hb.q (fun ws c s hw => ?_)
    bv_omega
    exact k ⟨ws, b.deeds, b.facts⟩ c s ⟨hw, hb.p.up (by omega), hb.fl, hb.fk⟩
  · bv_omega
    refine IfK.dec (fun h => ?_) (fun h => ?_)
    · bv_omega
      with_reducible refine fw_rowO hn hb.p (fun ws c s hw => ?_)
      bv_omega
      exact k ⟨b.asks, ws, b.facts⟩ c s ⟨hb.q.up (by omega), hw, hb.fl, hb.fk⟩
    · bv_omega
      intro a c s a0 a1
      bv_omega
      intro r c s r0 r1
      bv_omega
      refine ix_any (e := PyData.int) (l := [1, 1, 8]) rfl r0 r1 fun m hm => ?_
      have hm2 : 1 ≤ m ∧ m ≤ 8 := by
        simp only [List.mem_cons, List.not_mem_nil, or_false] at hm
        omega
      bv_omega
      with_reducible refine wp_lcB Fact.d fOk (fun g => ∃ (c s : Int), g = [some (.lst [.d (.int c), .d (.int s)]), some (.d b.d), some (.d (.tuple (b.asks.map PyData.str))), some (.d (.tuple (b.deeds.map PyData.str))), some (.d (.tuple (b.facts.map Fact.d))), some (.d (.int kd)), some (.d (.int a)), none, none, none, none]) (fun fs g hl hp hg => ?_) (fun d hd g hg => ?_) ⟨_, _, rfl⟩
      · obtain ⟨c, s, eg⟩ := hg
        have hfs : fs.length ≤ 8 := by rw [hl, intsF_len]; omega
        subst eg
        have c1 : (cutD (b.deeds.map PyData.str) none (some 1)).length ≤ 100 := Nat.le_trans (cut_le _ _ _) (by omega)
        have c2 : (cutD (b.asks.map PyData.str) none (some 1)).length ≤ 100 := Nat.le_trans (cut_le _ _ _) (by omega)
        have e1 : b.asks.map PyData.str ++ [PyData.str (Str.ofString "zzzzz")] ++ cutD (b.deeds.map PyData.str) none (some 1) = (b.asks ++ [Str.ofString "zzzzz"] ++ cutD b.deeds none (some 1)).map PyData.str := by
          rw [List.map_append, List.map_append, cutD_map]; rfl
        have e2 : b.deeds.map PyData.str ++ [PyData.str (Str.ofString "yyyyy")] ++ cutD (b.asks.map PyData.str) none (some 1) = (b.deeds ++ [Str.ofString "yyyyy"] ++ cutD b.asks none (some 1)).map PyData.str := by
          rw [List.map_append, List.map_append, cutD_map]; rfl
        have d1 := cut_le b.deeds none (some 1)
        have d2 := cut_le b.asks none (some 1)
        array_get_dec
        refine wp_jn (fun g => ∃ (c s : Int) (fs : List Fact) (o8 : Option O), (fs.length ≤ 8 ∧ ∀ f ∈ fs, fOk f) ∧ g = [some (.lst [.d (.int c), .d (.int s)]), some (.d b.d), some (.d (.tuple (b.asks.map PyData.str))), some (.d (.tuple (b.deeds.map PyData.str))), some (.d (.tuple (b.facts.map Fact.d))), some (.d (.int kd)), some (.d (.int a)), some (.lst ((fs.map Fact.d).map O.d)), o8, none, none]) ?_ ?_
        · bv_omega
          refine IfK.dec (fun h => ?_) (fun h => ?_)
          · bv_omega
            rw [e1, e2]
            have l7 : (fs.map Fact.d).length ≤ 8 := by rw [List.length_map]; exact hfs
            have q1 : (b.asks ++ [Str.ofString "zzzzz"] ++ cutD b.deeds none (some 1)).length ≤ 1000 := by simp only [List.length_append, List.length_singleton]; omega
            have q2 : (b.deeds ++ [Str.ofString "yyyyy"] ++ cutD b.asks none (some 1)).length ≤ 1000 := by simp only [List.length_append, List.length_singleton]; omega
            have q3 : 1 ≤ (b.deeds ++ [Str.ofString "yyyyy"] ++ cutD b.asks none (some 1)).length := by simp only [List.length_append, List.length_singleton]; omega
            generalize b.asks ++ [Str.ofString "zzzzz"] ++ cutD b.deeds none (some 1) = Q at q1
            generalize b.deeds ++ [Str.ofString "yyyyy"] ++ cutD b.asks none (some 1) = P at q2 q3
            bv_omega
            with_reducible refine wp_lcB Fact.d fOk (fun g => ∃ (c s : Int), g = [some (.lst [.d (.int c), .d (.int s)]), some (.d b.d), some (.d (.tuple (b.asks.map PyData.str))), some (.d (.tuple (b.deeds.map PyData.str))), some (.d (.tuple (b.facts.map Fact.d))), some (.d (.int kd)), some (.d (.int a)), some (.d (.list (fs.map Fact.d))), some (.d (.tuple [.tuple (Q.map PyData.str), .tuple (P.map PyData.str)])), none, none]) (fun fs2 g hl2 hp2 hg => ?_) (fun d hd g hg => ?_) ⟨_, _, rfl⟩
            · obtain ⟨c, s, eg⟩ := hg
              subst eg
              bv_omega
              exact ⟨c, s, fs2, _, ⟨by rw [hl2, List.length_map]; exact hfs, hp2⟩, rfl⟩
            · obtain ⟨c, s, eg⟩ := hg
              subst eg
              bv_omega
              with_reducible refine fw_fact q1 q3 q2 (fun f c s hf => ?_)
              bv_omega
              exact ⟨f, rfl, over_ok hf, c, s, rfl⟩
          · bv_omega
            exact ⟨c, s, fs, _, ⟨hfs, hp⟩, rfl⟩
        · intro g hg
          obtain ⟨c, s, fs, o8, hfs, eg⟩ := hg
          have l8 := hfs.1
          have l7 : (fs.map Fact.d).length ≤ 8 := by rw [List.length_map]; exact hfs.1
          have f1 : (cutD (b.facts.map Fact.d) none (some a)).length ≤ 8 := Nat.le_trans (cut_le _ _ _) (by omega)
          subst eg
          bv_omega
          intro r c s r0 r1
          have f2 : (cutD (b.facts.map Fact.d) (some (a + r)) none).length ≤ 8 := Nat.le_trans (cut_le _ _ _) (by omega)
          bv_omega
          have := k ⟨b.asks, b.deeds, cutD (cutD b.facts none (some a) ++ fs ++ cutD b.facts (some (a + r)) none) none (some 8)⟩ c s ⟨hb.q.up (by omega), hb.p.up (by omega), cut8 _, fun t ht => by
            have ht := cut_mem ht
            rcases List.mem_append.mp ht with ht | ht
            · rcases List.mem_append.mp ht with ht | ht
              · exact hb.fk t (cut_mem ht)
              · exact hfs.2 _ ht t rfl
            · exact hb.fk t (cut_mem ht)⟩
          unfold Book.d at this
          simp only [← cutD_map, List.map_append] at this
          exact this
      · obtain ⟨c, s, eg⟩ := hg
        subst eg
        bv_omega
        rw [show b.deeds.map PyData.str ++ [PyData.str (Str.ofString "zzzzz")] = (b.deeds ++ [Str.ofString "zzzzz"]).map PyData.str by rw [List.map_append]; rfl]
        with_reducible refine fw_fact (by omega) (by simp) (by simp only [List.length_append, List.length_singleton]; omega) (fun f c s hf => ?_)
        rw [show (b.deeds ++ [Str.ofString "zzzzz"]).map PyData.str = b.deeds.map PyData.str ++ [PyData.str (Str.ofString "zzzzz")] by rw [List.map_append]; rfl]
        bv_omega
        exact ⟨f, rfl, over_ok hf, c, s, rfl⟩
theorem BK.bb {n : Nat} {b : Book} (hn : n ≤ 100) (h : BK n b) : BB b := ⟨Nat.le_trans h.q.le hn, Nat.le_trans h.p.le hn, by have := h.fl; omega, h.q.w, h.p.w, h.fk⟩
theorem dd_nodup : ∀ {l : List Str}, l.Nodup → ddS l = l := by
  have : ∀ (l acc : List Str), (acc ++ l).Nodup → l.foldl dd1 acc = acc ++ l := by
    intro l
    induction l with
    | nil => intro acc _; simp
    | cons x r ih =>
      intro acc h
      have hx : x ∉ acc := fun q => (List.nodup_append.mp h).2.2 x q x List.mem_cons_self rfl
      rw [List.foldl_cons, show dd1 acc x = acc ++ [x] from if_neg hx, ih _ (by rw [List.append_assoc]; exact h), List.append_assoc]
      rfl
  intro l h
  have := this l [] (by simpa using h)
  simpa [ddS] using this
theorem nm_ok {z : Str} (h : NmOk z) : nmB z = true := by
  unfold nmB
  rw [decide_eq_true ⟨h.pos, h.le⟩, decide_eq_false (show z ∉ takS from h.free)]
  simp only [Bool.not_false, Bool.true_and, List.all_eq_true]
  intro c hc
  rw [← lets_mem]
  exact decide_eq_true (h.low c hc)
theorem tnm_over {qs : List Str} : ∀ {t : Tst}, t.over qs → ∀ q ∈ tnm t, q ∈ qs
  | .yes, _, q, h => by cases h
  | .no, _, q, h => by cases h
  | .ask x, h, q, m => by rw [List.mem_singleton.mp m]; exact h
  | .not t, h, q, m => tnm_over (t := t) h q m
  | .and a b, h, q, m => by
    rcases List.mem_append.mp m with m | m
    · exact tnm_over (t := a) h.1 q m
    · exact tnm_over (t := b) h.2 q m
  | .or a b, h, q, m => by
    rcases List.mem_append.mp m with m | m
    · exact tnm_over (t := a) h.1 q m
    · exact tnm_over (t := b) h.2 q m
theorem in_over {b : Book} {f : Fact} (h : f.over b.asks b.deeds) : inFact b f = true := by
  cases f with
  | keeps p q => simp [inFact, h.1, h.2]
  | makes p q v => simp [inFact, h.1, h.2]
  | rests p r => simp [inFact, h.1, h.2]
  | idles q v p => simp [inFact, h.1, h.2]
  | still p => have h : p ∈ b.deeds := h; simp [inFact, h]
  | never t =>
    show (tnm t).all _ = true
    rw [List.all_eq_true]
    exact fun q hq => decide_eq_true (tnm_over h.1 q hq)
theorem good_due {b : Book} (h : b.Ok) : dueB b = none := by
  have g1 : goodR b.asks 0 = true := by
    unfold goodR
    rw [decide_eq_true ⟨Nat.zero_le _, h.asksL⟩, dd_nodup h.asksN, decide_eq_false (Nat.lt_irrefl _)]
    simp only [Bool.not_false, Bool.true_and, List.all_eq_true]
    exact fun q hq => nm_ok (h.asksM q hq)
  have g2 : goodR b.deeds 1 = true := by
    unfold goodR
    rw [decide_eq_true ⟨h.deedsP, h.deedsL⟩, dd_nodup h.deedsN, decide_eq_false (Nat.lt_irrefl _)]
    simp only [Bool.not_false, Bool.true_and, List.all_eq_true]
    exact fun q hq => nm_ok (h.deedsM q hq)
  have g3 : b.facts.all (inFact b) = true := List.all_eq_true.mpr fun f hf => in_over (h.factsO f hf)
  unfold dueB
  rw [g1, g2, g3]
  simp [h.factsL]
theorem good_bk {b : Book} (h : b.Ok) : BK 3 b :=
  ⟨⟨h.asksL, fun z m => by have := (h.asksM z m).le; omega⟩, ⟨h.deedsL, fun z m => by have := (h.deedsM z m).le; omega⟩, by have := h.factsL; omega, fun t m => (h.factsO _ m).2⟩
theorem due_cases (b : Book) : dueB b = none ∨ dueB b = some (Str.ofString "asks") ∨ dueB b = some (Str.ofString "deeds") ∨ dueB b = some (Str.ofString "fact") := by
  unfold dueB
  split
  · exact .inr (.inl rfl)
  · split
    · exact .inr (.inr (.inl rfl))
    · split
      · exact .inr (.inr (.inr rfl))
      · exact .inl rfl
theorem ix_n {y : PyData} {AO : O → Prop} (k : AO (.d y)) : optW (ixF [.lst [.d .none, .d y], .d (.int (if Z.isNon PyData.none = true then 1 else 0))]) AO := k
theorem ix_s {y : PyData} {w : Str} {AO : O → Prop} (k : AO (.d (.str w))) : optW (ixF [.lst [.d (.str w), .d y], .d (.int (if Z.isNon (.str w) = true then 1 else 0))]) AO := k
theorem law_true : ∀ ns : List Int, ns.length ≤ 63 → trueF f_law ns := by
  intro ns hns
  have main : FW (f_law [.gL (ns.map PyData.int)]) (fun r ps => r = .d (.bool true) ∧ ps.length = 1) (fun _ => False) := by
    unfold f_law
    with_reducible refine Stp.go ?_
    unfold g_law
    bv_omega
    intro c s
    bv_omega
    refine fw_book fun b c s hk => ?_
    have hb := good_bk hk
    have hd := good_due hk
    bv_omega
    refine wp_forN (fun i g => ∃ (o2 o3 o4 o5 : Option O), g = [some (.gL (ns.map PyData.int)), some (.d b.d), o2, o3, o4, o5]) ?_ ?_ ⟨_, _, _, _, rfl⟩
    · intro g hg
      obtain ⟨o2, o3, o4, o5, eg⟩ := hg
      subst eg
      bv_omega
      exact ⟨rfl, rfl⟩
    · intro i g i0 i1 hg
      obtain ⟨o2, o3, o4, o5, eg⟩ := hg
      subst eg
      bv_omega
      intro c s
      bv_omega
      with_reducible refine fw_otherwise (by decide) hb (fun b1 c s hb1 => ?_)
      array_get_dec
      refine wp_jn (fun g => ∃ (c s : Int) (b2 : Book), BK 15 b2 ∧ g = [some (.gL (ns.map PyData.int)), some (.d b.d), some (.d (.int i)), some (.lst [.d (.int c), .d (.int s)]), some (.d b2.d), o5]) ?_ ?_
      · bv_omega
        intro r c s r0 r1
        bv_omega
        refine IfK.dec (fun h => ?_) (fun h => ?_)
        · bv_omega
          have lp : (b1.deeds.map PyData.str).length = b1.deeds.length := List.length_map _
          refine IfK.dec (fun h => ?_) (fun h => ?_)
          · bv_omega
            with_reducible refine fw_otherwise (by decide) hb1 (fun b2 c s hb2 => ?_)
            bv_omega
            exact ⟨c, s, b2, hb2, rfl⟩
          · bv_omega
            exact ⟨c, s, b1, ⟨hb1.q.up (by decide), hb1.p.up (by decide), hb1.fl, hb1.fk⟩, rfl⟩
        · bv_omega
          exact ⟨c, s, b1, ⟨hb1.q.up (by decide), hb1.p.up (by decide), hb1.fl, hb1.fk⟩, rfl⟩
      · intro g hg
        obtain ⟨c, s, b2, hb2, eg⟩ := hg
        have cs := due_cases b2
        subst eg
        bv_omega
        with_reducible refine fw_ldue (hb2.bb (by decide)) ?_
        have tb := fun (A : O → List O → Prop) (B : Exn → Prop) => @fw_told b2 (hb2.bb (by decide)) A B
        have tg := fun (A : O → List O → Prop) (B : Exn → Prop) => @fw_told b (hb.bb (by decide)) A B
        rw [hd] at tg
        generalize dueB b2 = r at cs tb
        clear hb2
        rcases cs with rfl | rfl | rfl | rfl
        all_goals
          simp only [dueD]
          bv_omega
          refine tb _ _ ?_
          simp only [toldD]
          bv_omega
          first | refine ix_n ?_ | refine ix_s ?_
          bv_omega
          refine tg _ _ ?_
          simp only [toldD]
          bv_omega
          exact ⟨_, _, _, _, rfl⟩
  exact main
end Lawk16
open PySem PySem.W PyProof.Rows
set_option maxRecDepth 100000 in
set_option maxHeartbeats 0 in
theorem PySem.Challenge.cw_unsaidways_k16_books_let_by_and_refused_holds : PySem.Challenge.rw_unsaidways_k16_books_let_by_and_refused.Holds := by
  w_on; o_law; k_head; (case hw => w_witness2)
  k_fill
  refine Z.zwalk (l := PySem.Challenge.rw_unsaidways_k16_books_let_by_and_refused) (x := "_law_script") 19 rfl rfl ⟨rfl, by decide, by decide⟩ Lawk16.law_true (fun w h Y => PySem.W.kIn_of Y) ?F
  case F =>
    intro w mg fa h KX G hmg
    refine' Lawk16.all_ok hmg ⟨PySem.W.mg_none_of KX G ?n_all, PySem.W.mg_none_of KX G ?n_dict, PySem.W.mg_none_of KX G ?n_int, PySem.W.mg_none_of KX G ?n_isinstance, PySem.W.mg_none_of KX G ?n_len, PySem.W.mg_none_of KX G ?n_max, PySem.W.mg_none_of KX G ?n_min, PySem.W.mg_none_of KX G ?n_range, PySem.W.mg_none_of KX G ?n_set, PySem.W.mg_none_of KX G ?n_sorted, PySem.W.mg_none_of KX G ?n_tuple, Z.gl_str KX G ?g_LETTERS, Z.gl_int KX G ?g_LONGEST, Z.gl_int KX G ?g_MOST, Z.gl_int KX G ?g_MOST_FACTS, Z.gl_tup KX G ?g_TAKEN ?l_TAKEN ?z_TAKEN ?e_TAKEN, (Z.xfsCons KX G ?aX_NoBook ⟨?ec1_NoBook, ?ec2_NoBook, ?ec3_NoBook, ?ec4_NoBook⟩ ?xf_wordn_NoBook Z.xfsNil), ⟨_, (.own (PySem.W.mg_of KX G ?aX_BadText) (.own (PySem.W.mg_of KX G ?aX_NoErrand) (.own (PySem.W.mg_of KX G ?aX_NoRow) (.own (PySem.W.mg_of KX G ?aX_NoWay) (.own (PySem.W.mg_of KX G ?aX_NoWorld) (.own (PySem.W.mg_of KX G ?aX_TooMany) .nil)))))), (Z.isCons KX G ?aX_NoBook ⟨?ec1_NoBook, ?ec2_NoBook, ?ec3_NoBook, ?ec4_NoBook, ?ec5_NoBook, ?ec6_NoBook, ?ec7_NoBook, ?ec8_NoBook⟩ ?is_BadText_NoErrand_NoRow_NoWay_NoWorld_TooMany_NoBook Z.isNil)⟩, ⟨_, (.own (PySem.W.mg_of KX G ?aX_NoBook) .nil), (Z.isCons KX G ?aX_NoBook ⟨?ec1_NoBook, ?ec2_NoBook, ?ec3_NoBook, ?ec4_NoBook, ?ec5_NoBook, ?ec6_NoBook, ?ec7_NoBook, ?ec8_NoBook⟩ ?is_NoBook_NoBook Z.isNil)⟩, (Z.hndOf (Z.hndCons KX G ?aX_NoBook ?hd_WayError_NoBook (Z.hndNil KX G ?aX_WayError))), (Z.xbAt (mc := .type "type") KX G ?aX_WayError ?xb_WayError1 ?xb_WayError2 ?xb_WayError3)⟩ (Z.xmakAt KX G ?aX_NoBook ?xl_NoBook ?xr_NoBook ?xs_NoBook ?xsb_NoBook ?xty_NoBook ?xk_NoBook ?i_NoBook_init ?tf_NoBook_init ?n_NoBook_init ?l_NoBook_init ?c_NoBook_init ?k_NoBook_init) (Z.defAt KX G ?a_is_name ?l_is_name ?c_is_name ?k_is_name) (Z.defAt KX G ?a_asked_in ?l_asked_in ?c_asked_in ?k_asked_in) (Z.defAt KX G ?a_are_names ?l_are_names ?c_are_names ?k_are_names) (Z.defAt KX G ?a_named_in ?l_named_in ?c_named_in ?k_named_in) (Z.defAt KX G ?a_is_of ?l_is_of ?c_is_of ?k_is_of) (Z.defAt KX G ?a_look_book ?l_look_book ?c_look_book ?k_look_book) (Z.defAt KX G ?a_law_box ?l_law_box ?c_law_box ?k_law_box) (Z.defAt KX G ?a_law_take ?l_law_take ?c_law_take ?k_law_take) (Z.defAt KX G ?a_law_names ?l_law_names ?c_law_names ?k_law_names) (Z.defAt KX G ?a_law_test ?l_law_test ?c_law_test ?k_law_test) (Z.defAt KX G ?a_law_so ?l_law_so ?c_law_so ?k_law_so) (Z.defAt KX G ?a_law_rests ?l_law_rests ?c_law_rests ?k_law_rests) (Z.defAt KX G ?a_law_fits ?l_law_fits ?c_law_fits ?k_law_fits) (Z.defAt KX G ?a_law_kept ?l_law_kept ?c_law_kept ?k_law_kept) (Z.defAt KX G ?a_law_live ?l_law_live ?c_law_live ?k_law_live) (Z.defAt KX G ?a_law_fact ?l_law_fact ?c_law_fact ?k_law_fact) (Z.defAt KX G ?a_law_book ?l_law_book ?c_law_book ?k_law_book) (Z.defAt KX G ?a_law_is_name ?l_law_is_name ?c_law_is_name ?k_law_is_name) (Z.defAt KX G ?a_law_asked_in ?l_law_asked_in ?c_law_asked_in ?k_law_asked_in) (Z.defAt KX G ?a_law_there ?l_law_there ?c_law_there ?k_law_there) (Z.defAt KX G ?a_law_due ?l_law_due ?c_law_due ?k_law_due) (Z.defAt KX G ?a_law_bad_name ?l_law_bad_name ?c_law_bad_name ?k_law_bad_name) (Z.defAt KX G ?a_law_row_otherwise ?l_law_row_otherwise ?c_law_row_otherwise ?k_law_row_otherwise) (Z.defAt KX G ?a_law_otherwise ?l_law_otherwise ?c_law_otherwise ?k_law_otherwise) (Z.defAt KX G ?a_law_told ?l_law_told ?c_law_told ?k_law_told) (Z.defAt KX G ?a_law ?l_law ?c_law ?k_law)
    case aX_NoBook => k_is
    case aX_TooMany => k_is
    case aX_NoWorld => k_is
    case aX_NoWay => k_is
    case aX_NoRow => k_is
    case aX_NoErrand => k_is
    case aX_BadText => k_is
    case aX_WayError => k_is
    case n_all => k_is
    case n_dict => k_is
    case n_int => k_is
    case n_isinstance => k_is
    case n_len => k_is
    case n_max => k_is
    case n_min => k_is
    case n_range => k_is
    case n_set => k_is
    case n_sorted => k_is
    case n_tuple => k_is
    case g_LETTERS => k_is
    case g_LONGEST => k_is
    case g_MOST => k_is
    case g_MOST_FACTS => k_is
    case g_TAKEN => k_is
    case l_TAKEN => k_is
    case z_TAKEN => decide +kernel
    case e_TAKEN => rfl
    case ec1_NoBook => k_is
    case ec2_NoBook => k_is
    case ec3_NoBook => k_is
    case ec4_NoBook => k_is
    case xf_wordn_NoBook => k_is
    case ec5_NoBook => k_is
    case ec6_NoBook => k_is
    case ec7_NoBook => k_is
    case ec8_NoBook => k_is
    case is_BadText_NoErrand_NoRow_NoWay_NoWorld_TooMany_NoBook => first | kit_is | k_is
    case is_NoBook_NoBook => first | kit_is | k_is
    case hd_WayError_NoBook => first | kts_exm | k_is
    case xb_WayError1 => k_is
    case xb_WayError2 => k_is
    case xb_WayError3 => k_is
    case xl_NoBook => k_is
    case xr_NoBook => decide +kernel
    case xs_NoBook => k_is
    case xsb_NoBook => k_is
    case xty_NoBook => k_is
    case xk_NoBook => k_is
    case i_NoBook_init => k_is
    case tf_NoBook_init => k_is
    case n_NoBook_init => k_is
    case l_NoBook_init => k_is
    case c_NoBook_init => k_is
    case k_NoBook_init => k_is
    case a_is_name => k_is
    case l_is_name => k_is
    case c_is_name => k_is
    case k_is_name => k_is
    case a_asked_in => k_is
    case l_asked_in => k_is
    case c_asked_in => k_is
    case k_asked_in => k_is
    case a_are_names => k_is
    case l_are_names => k_is
    case c_are_names => k_is
    case k_are_names => k_is
    case a_named_in => k_is
    case l_named_in => k_is
    case c_named_in => k_is
    case k_named_in => k_is
    case a_is_of => k_is
    case l_is_of => k_is
    case c_is_of => k_is
    case k_is_of => k_is
    case a_look_book => k_is
    case l_look_book => k_is
    case c_look_book => k_is
    case k_look_book => k_is
    case a_law_box => k_is
    case l_law_box => k_is
    case c_law_box => k_is
    case k_law_box => k_is
    case a_law_take => k_is
    case l_law_take => k_is
    case c_law_take => k_is
    case k_law_take => k_is
    case a_law_names => k_is
    case l_law_names => k_is
    case c_law_names => k_is
    case k_law_names => k_is
    case a_law_test => k_is
    case l_law_test => k_is
    case c_law_test => k_is
    case k_law_test => k_is
    case a_law_so => k_is
    case l_law_so => k_is
    case c_law_so => k_is
    case k_law_so => k_is
    case a_law_rests => k_is
    case l_law_rests => k_is
    case c_law_rests => k_is
    case k_law_rests => k_is
    case a_law_fits => k_is
    case l_law_fits => k_is
    case c_law_fits => k_is
    case k_law_fits => k_is
    case a_law_kept => k_is
    case l_law_kept => k_is
    case c_law_kept => k_is
    case k_law_kept => k_is
    case a_law_live => k_is
    case l_law_live => k_is
    case c_law_live => k_is
    case k_law_live => k_is
    case a_law_fact => k_is
    case l_law_fact => k_is
    case c_law_fact => k_is
    case k_law_fact => k_is
    case a_law_book => k_is
    case l_law_book => k_is
    case c_law_book => k_is
    case k_law_book => k_is
    case a_law_is_name => k_is
    case l_law_is_name => k_is
    case c_law_is_name => k_is
    case k_law_is_name => k_is
    case a_law_asked_in => k_is
    case l_law_asked_in => k_is
    case c_law_asked_in => k_is
    case k_law_asked_in => k_is
    case a_law_there => k_is
    case l_law_there => k_is
    case c_law_there => k_is
    case k_law_there => k_is
    case a_law_due => k_is
    case l_law_due => k_is
    case c_law_due => k_is
    case k_law_due => k_is
    case a_law_bad_name => k_is
    case l_law_bad_name => k_is
    case c_law_bad_name => k_is
    case k_law_bad_name => k_is
    case a_law_row_otherwise => k_is
    case l_law_row_otherwise => k_is
    case c_law_row_otherwise => k_is
    case k_law_row_otherwise => k_is
    case a_law_otherwise => k_is
    case l_law_otherwise => k_is
    case c_law_otherwise => k_is
    case k_law_otherwise => k_is
    case a_law_told => k_is
    case l_law_told => k_is
    case c_law_told => k_is
    case k_law_told => k_is
    case a_law => k_is
    case l_law => k_is
    case c_law => k_is
    case k_law => k_is
#print axioms PySem.Challenge.cw_unsaidways_k16_books_let_by_and_refused_holds
