import PyProof.Rows.All
import OpenK.AllK
import Wide.All
import HandS.Wide
import HandS.ForMost
import HandS.ForExc
import KE.KDictKeyed
import KE.KeyNested
import HandS.TupAny
import HandS.IsInst
import HandS.Conv
import Wide.FinOn
import PyProof.StrOps2
import HandS.Strs
import HandS.Replace
import HandS.SetFor
import HandS.DictTup
import HandS.Small
import KE.KDictPairs
import HandS.Deep
import HandS.Style
import HandS.Flow
import KE.BitLaws
import KE.GoesEnum
import HandS.More
import HandS.Zip
import HandS.SortInts
import HandS.TryOnly
import HandS.Defaults
import HandS.TupSets
import KE.KDictZip
import PyProof.EnumStmt
import HandS.MapObj
import HandS.ExcInit
import HandS.ExcOwn
import HandS.ExcField
import HandS.ExcIs
import HandS.ExcValue
import HandS.ClsMeth
import HandS.TupLe
import PyProof.WalksMore
import HandS.SetKeys
import PyProof.ReprRoads
import KE.KDictLaws
import HandS.Text
import KE.OsRunLaw
import PySem.Challenge.RW_unsaidways_k10_refusals
set_option Elab.async false
set_option linter.all false
set_option maxRecDepth 100000
set_option maxHeartbeats 4000000
namespace Z
open PySem PySem.Spec PyProof.Rows L2
/-- a tuple of texts alone, or of pairs of whole numbers alone: such a one is looked through by .index, or made a dict, so more is known of it -/
def idxS (ds : List PyData) : Bool := !ds.isEmpty && ((ds.all fun d => match d with
  | .str _ => true
  | _ => false) || ds.all fun d => match d with
  | .tuple [.int _, .int _] => true
  | _ => false)
mutual
/-- data as it lies: lists and tuples of ours -/
inductive Dp (K : PySem.W.Frag) (H : Hp) : V → PyData → Prop
  | non : Dp K H .non .none
  | bl (b : Bool) : Dp K H (.bl b) (.bool b)
  | int (i : Int) : Dp K H (.int i) (.int i)
  | str (x : Str) : Dp K H (.str x) (.str x)
  | lst {a : Addr} {xs : List V} {ds : List PyData} : H a = some (.lst xs) → DpAll K H xs ds → Dp K H (.ref a) (.list ds)
  | tup {a : Addr} {xs : List V} {ds : List PyData} : H a = some (.tup xs) → idxS ds = false → DpAll K H xs ds → Dp K H (.ref a) (.tuple ds)
  | ftup {a : Addr} {o : Obj} {xs : List V} {ds : List PyData} : H a = some (.frz o (.tup xs)) → o.dict = none → idxS ds = true → DpAll K H xs ds → Dp K H (.ref a) (.tuple ds)
  | ktup {a : Addr} {o : Obj} {its : Array Value} {n : Nat} {xs : List V} {ds : List PyData} : K.lookup a = some o → o.dict = none → o.cls = .type "tuple" ∧ o.data = .seq its n ∧ its.size ≤ sizeLine ∧ Vals xs its.toList → idxS ds = true → DpAll K H xs ds → Dp K H (.ref a) (.tuple ds)
inductive DpAll (K : PySem.W.Frag) (H : Hp) : List V → List PyData → Prop
  | nil : DpAll K H [] []
  | cons {v : V} {vs : List V} {d : PyData} {ds : List PyData} : Dp K H v d → DpAll K H vs ds → DpAll K H (v :: vs) (d :: ds)
end
mutual
theorem dpTo {K : PySem.W.Frag} {H : Hp} : ∀ {v : V} {x : PyData}, Dp K H v x → L2.Dp K H v x
  | _, _, .non => .non
  | _, _, .bl b => .bl b
  | _, _, .int i => .int i
  | _, _, .str x => .str x
  | _, _, .lst h t => .lst (SqL.of h) (dpAllTo t)
  | _, _, .tup h _ t => .tup (SqT.of h) (dpAllTo t)
  | _, _, .ftup h _ _ t => .tup (.inl (.inr ⟨_, h⟩)) (dpAllTo t)
  | _, _, .ktup h _ q _ t => .tup (.inr ⟨_, _, _, h, q⟩) (dpAllTo t)
theorem dpAllTo {K : PySem.W.Frag} {H : Hp} : ∀ {v : List V} {x : List PyData}, DpAll K H v x → L2.DpAll K H v x
  | _, _, .nil => .nil
  | _, _, .cons h t => .cons (dpTo h) (dpAllTo t)
end
theorem dpTup {K : PySem.W.Frag} {H : Hp} {v : V} {ds : List PyData} (h : Dp K H v (.tuple ds)) : ∃ a vs, v = .ref a ∧ SqT K H a vs ∧ DpAll K H vs ds := by
  cases h with
  | tup h _ t => exact ⟨_, _, rfl, SqT.of h, t⟩
  | ftup h _ _ t => exact ⟨_, _, rfl, .inl (.inr ⟨_, h⟩), t⟩
  | ktup h _ q _ t => exact ⟨_, _, rfl, .inr ⟨_, _, _, h, q⟩, t⟩
/-- a value with what it owns; gL, gT: a list, a tuple of another's, to be looked at -/
inductive O where
  | d (x : PyData)
  | gL (ds : List PyData)
  | gT (ds : List PyData)
  | lst (xs : List O)
  | tup (xs : List O)
  | dK (kvs : List (Key × O))
  | dT (kvs : List (List Key × O))
  | ins (c : Str) (fs : List (Str × O))
  | gD (kvs : List (List Key × PyData))
  | gK (kvs : List (Key × PyData))
  | pin (u : HO)
  | fr (o : O)
  | mem (g : List Key → Option PyData)
  | hole (a : Addr)
  | jk
  | exc (c : Str) (fs : List (Str × PyData))
  | dN (kds : List PyData) (os : List O)
  | gN (kds vds : List PyData)
mutual
def nkOf : PyData → Option NestedKey
  | .int i => some (.num i)
  | .bool b => some (.num (if b = true then 1 else 0))
  | .tuple ds => (nkL ds).map .tup
  | _ => none
def nkL : List PyData → Option (List NestedKey)
  | [] => some []
  | d :: r => match nkOf d, nkL r with
    | some k, some ks => some (k :: ks)
    | _, _ => none
end
/-- a dict whose keys are nested tuples of ints: its keys, where their tuples stand, its values -/
def ndO (a : Addr) (ks : List NestedKey) (kas : List Addr) (vs : List V) : HO := .ext fun h => ks.Nodup ∧ (∀ k ∈ ks, k.depth ≤ 8) ∧ kas.length = ks.length ∧ vs.length = ks.length ∧ ks.length ≤ sizeLine ∧ (a == sysModules) = false ∧
  ∃ (o : Obj) (es : Array DictEntry) (ep : Nat) (us : List Value), h.get? a = some o ∧ o.ExactDict ∧ o.data = .dict es ep ∧ Vals vs us ∧ ∀ w : World, es.toList = (ks.zip (kas.zip us)).map fun x => ⟨x.1.hash w, .ref x.2.1, x.2.2⟩
/-- an exception that was caught, at a -/
def exH (a : Addr) (cls : Value) (d : Option Addr) : HO := .ext fun h => ∃ (oe : Obj) (vs : Array Value), h.get? a = some oe ∧ Zc cls d oe ∧ oe.data = .fields vs
/-- its fields -/
def XdF (K : PySem.W.Frag) (H : Hp) (d : Option Addr) (fs : List (Str × PyData)) : Prop := (fs = [] ∧ d = none) ∨ ∃ (dd : Addr) (fvs : List (Str × V)), d = some dd ∧ H dd = some (.xd fvs) ∧ fvs.map (·.1) = fs.map (·.1) ∧ DpAll K H (fvs.map (·.2)) (fs.map (·.2))
/-- the same keys, each once -/
def Keq {α : Type} (a b : List α) : Prop := a = b ∧ b.Nodup
/-- no data by itself -/
def O.nd : O → Bool
  | .d _ => false
  | .fr _ => false
  | _ => true
/-- what stands still: objects that do not change, and dicts that only take in what a function tells -/
structure Fz where
  h : Hp
  m : Addr → Option (List Key → Option PyData)
structure Fz.le (F F' : Fz) : Prop where
  h : Same F.h F'.h
  m : ∀ a g, F.m a = some g → F'.m a = some g
theorem Fz.le.refl (F : Fz) : F.le F := ⟨Same.refl _, fun _ _ h => h⟩
/-- a memo tells of few keys -/
def FinG (g : List Key → Option PyData) : Prop := ∃ dom : List (List Key), dom.length < 16777216 ∧ ∀ k, (g k).isSome = true → k ∈ dom
structure MemAt (K : PySem.W.Frag) (Hf : Hp) (kvs : List (List Key × V)) (g : List Key → Option PyData) : Prop where
  nd : (kvs.map (·.1)).Nodup
  fin : FinG g
  val : ∀ p ∈ kvs, ∃ x, g p.1 = some x ∧ Dp K Hf p.2 x
structure Fz.on (K : PySem.W.Frag) (F : Fz) (H : Hp) : Prop where
  same : Same F.h H
  mem : ∀ a g, F.m a = some g → F.h a = none ∧ ∃ kvs, H a = some (.dT kvs) ∧ MemAt K F.h kvs g
def Fz.no (F : Fz) (a : Addr) : Prop := F.h a = none ∧ F.m a = none
mutual
inductive Ow (K : PySem.W.Frag) (mg : Str → Option Value) (F : Fz) : Hp → V → O → List Addr → Prop
  | d {H : Hp} {v : V} {x : PyData} : Dp K F.h v x → Ow K mg F H v (.d x) []
  | gL {H : Hp} {a : Addr} {vs : List V} {ds : List PyData} : SqL K F.h a vs → DpAll K F.h vs ds → Ow K mg F H (.ref a) (.gL ds) []
  | gT {H : Hp} {a : Addr} {vs : List V} {ds : List PyData} : SqT K F.h a vs → DpAll K F.h vs ds → Ow K mg F H (.ref a) (.gT ds) []
  | pin {H : Hp} {a : Addr} {u : HO} : F.h a = some u → Ow K mg F H (.ref a) (.pin u) []
  | gD {H : Hp} {a : Addr} {o : Obj} {kvs : List (List Key × V)} {kds : List (List Key × PyData)} : F.h a = some (.frz o (.dT kvs)) → kvs.map (·.1) = kds.map (·.1) → DpAll K F.h (kvs.map (·.2)) (kds.map (·.2)) → Ow K mg F H (.ref a) (.gD kds) []
  | gK {H : Hp} {a : Addr} {o : Obj} {kvs : List (Key × V)} {kds : List (Key × PyData)} : F.h a = some (.frz o (.dK kvs)) → kvs.map (·.1) = kds.map (·.1) → DpAll K F.h (kvs.map (·.2)) (kds.map (·.2)) → Ow K mg F H (.ref a) (.gK kds) []
  | fr {H : Hp} {v : V} {o : O} {as : List Addr} : o.nd = true → Ow K mg F F.h v o as → Ow K mg F H v (.fr o) []
  | mem {H : Hp} {a : Addr} {g : List Key → Option PyData} : F.m a = some g → Ow K mg F H (.ref a) (.mem g) []
  | hole {H : Hp} {a : Addr} : Ow K mg F H (.ref a) (.hole a) []
  | jk {H : Hp} {a : Addr} : Ow K mg F H (.ref a) .jk []
  | exc {H : Hp} {a C : Addr} {c : Str} {d : Option Addr} {fs : List (Str × PyData)} : F.h a = some (exH a (.ref C) d) → mg c = some (.ref C) → XdF K F.h d fs → Ow K mg F H (.ref a) (.exc c fs) []
  | lst {H : Hp} {a : Addr} {vs : List V} {os : List O} {as : List Addr} : H a = some (.lst vs) → OwL K mg F H vs os as → Ow K mg F H (.ref a) (.lst os) (a :: as)
  | tup {H : Hp} {a : Addr} {vs : List V} {os : List O} {as : List Addr} : H a = some (.tup vs) → OwL K mg F H vs os as → Ow K mg F H (.ref a) (.tup os) (a :: as)
  | dK {H : Hp} {a : Addr} {kvs : List (Key × V)} {kos : List (Key × O)} {as : List Addr} : H a = some (.dK kvs) → Keq (kvs.map (·.1)) (kos.map (·.1)) → OwL K mg F H (kvs.map (·.2)) (kos.map (·.2)) as → Ow K mg F H (.ref a) (.dK kos) (a :: as)
  | dT {H : Hp} {a : Addr} {kvs : List (List Key × V)} {kos : List (List Key × O)} {as : List Addr} : H a = some (.dT kvs) → Keq (kvs.map (·.1)) (kos.map (·.1)) → OwL K mg F H (kvs.map (·.2)) (kos.map (·.2)) as → Ow K mg F H (.ref a) (.dT kos) (a :: as)
  | ins {H : Hp} {a C dx : Addr} {c : Str} {fvs : List (Str × V)} {fos : List (Str × O)} {as : List Addr} : H a = some (.ins C dx fvs) → mg c = some (.ref C) → fvs.map (·.1) = fos.map (·.1) → OwL K mg F H (fvs.map (·.2)) (fos.map (·.2)) as → Ow K mg F H (.ref a) (.ins c fos) (a :: as)
  | gN {H : Hp} {a b : Addr} {o : Obj} {ks : List NestedKey} {kas : List Addr} {kds vds : List PyData} {vs : List V} : F.h a = some (.frz o (ndO b ks kas vs)) → nkL kds = some ks → DpAll K F.h (kas.map V.ref) kds → DpAll K F.h vs vds → Ow K mg F H (.ref a) (.gN kds vds) []
  | dN {H : Hp} {a b : Addr} {ks : List NestedKey} {kas : List Addr} {kds : List PyData} {vs : List V} {os : List O} {as : List Addr} : H a = some (ndO b ks kas vs) → nkL kds = some ks → kas.length = kds.length → OwL K mg F H (kas.map V.ref ++ vs) (kds.map O.d ++ os) as → Ow K mg F H (.ref a) (.dN kds os) (a :: as)
inductive OwL (K : PySem.W.Frag) (mg : Str → Option Value) (F : Fz) : Hp → List V → List O → List Addr → Prop
  | nil {H : Hp} : OwL K mg F H [] [] []
  | cons {H : Hp} {v : V} {o : O} {as bs : List Addr} {vs : List V} {os : List O} : Ow K mg F H v o as → OwL K mg F H vs os bs → OwL K mg F H (v :: vs) (o :: os) (as ++ bs)
end
section
variable {K : PySem.W.Frag} {mg : Str → Option Value} {Hf Hf' : Fz} {H H' : Hp}
theorem sameT {a : Addr} {xs : List V} (e : Same H H') (h : SqT K H a xs) : SqT K H' a xs := by
  rcases h with (h | ⟨o, h⟩) | h
  · exact .inl (.inl (e _ _ h))
  · exact .inl (.inr ⟨o, e _ _ h⟩)
  · exact .inr h
mutual
theorem dpMono (e : Same H H') : ∀ {v : V} {x : PyData}, Dp K H v x → Dp K H' v x
  | _, _, .non => .non
  | _, _, .bl b => .bl b
  | _, _, .int i => .int i
  | _, _, .str x => .str x
  | _, _, .lst h t => .lst (e _ _ h) (dpAllMono e t)
  | _, _, .tup h i t => .tup (e _ _ h) i (dpAllMono e t)
  | _, _, .ftup h i j t => .ftup (e _ _ h) i j (dpAllMono e t)
  | _, _, .ktup h i q j t => .ktup h i q j (dpAllMono e t)
theorem dpAllMono (e : Same H H') : ∀ {v : List V} {x : List PyData}, DpAll K H v x → DpAll K H' v x
  | _, _, .nil => .nil
  | _, _, .cons h t => .cons (dpMono e h) (dpAllMono e t)
end
theorem xdMono {d : Option Addr} {fs : List (Str × PyData)} (e : Same H H') (h : XdF K H d fs) : XdF K H' d fs := by
  rcases h with h | ⟨dd, fvs, h1, h2, h3, h4⟩
  · exact .inl h
  · exact .inr ⟨dd, fvs, h1, e _ _ h2, h3, dpAllMono e h4⟩
mutual
theorem owThere : ∀ {v : V} {o : O} {as : List Addr}, Ow K mg Hf H v o as → ∀ a ∈ as, ∃ u, H a = some u
  | _, _, _, .d _ => fun a h => nomatch h
  | _, _, _, .gL _ _ => fun a h => nomatch h
  | _, _, _, .gT _ _ => fun a h => nomatch h
  | _, _, _, .gD _ _ _ => fun a h => nomatch h
  | _, _, _, .gK _ _ _ => fun a h => nomatch h
  | _, _, _, .gN _ _ _ _ => fun a h => nomatch h
  | _, _, _, .pin _ => fun a h => nomatch h
  | _, _, _, .fr _ _ => fun a h => nomatch h
  | _, _, _, .mem _ => fun a h => nomatch h
  | _, _, _, .hole => fun a h => nomatch h
  | _, _, _, .jk => fun a h => nomatch h
  | _, _, _, .exc _ _ _ => fun a h => nomatch h
  | _, _, _, .lst h t => fun a m => by
    rcases List.mem_cons.mp m with e | m
    · exact ⟨_, e ▸ h⟩
    · exact owLThere t a m
  | _, _, _, .tup h t => fun a m => by
    rcases List.mem_cons.mp m with e | m
    · exact ⟨_, e ▸ h⟩
    · exact owLThere t a m
  | _, _, _, .dK h _ t => fun a m => by
    rcases List.mem_cons.mp m with e | m
    · exact ⟨_, e ▸ h⟩
    · exact owLThere t a m
  | _, _, _, .dT h _ t => fun a m => by
    rcases List.mem_cons.mp m with e | m
    · exact ⟨_, e ▸ h⟩
    · exact owLThere t a m
  | _, _, _, .ins h _ _ t => fun a m => by
    rcases List.mem_cons.mp m with e | m
    · exact ⟨_, e ▸ h⟩
    · exact owLThere t a m
  | _, _, _, .dN h _ _ t => fun a m => by
    rcases List.mem_cons.mp m with e | m
    · exact ⟨_, e ▸ h⟩
    · exact owLThere t a m
theorem owLThere : ∀ {v : List V} {o : List O} {as : List Addr}, OwL K mg Hf H v o as → ∀ a ∈ as, ∃ u, H a = some u
  | _, _, _, .nil => fun a h => nomatch h
  | _, _, _, .cons h t => fun a m => by
    rcases List.mem_append.mp m with m | m
    · exact owThere h a m
    · exact owLThere t a m
end
mutual
theorem owMono (e : Hf.le Hf') : ∀ {H H' : Hp} {v : V} {o : O} {as : List Addr}, Ow K mg Hf H v o as → (∀ a ∈ as, H' a = H a) → Ow K mg Hf' H' v o as
  | _, _, _, _, _, .d h, _ => .d (dpMono e.h h)
  | _, _, _, _, _, .gL h t, _ => .gL (e.h.seq h) (dpAllMono e.h t)
  | _, _, _, _, _, .gT h t, _ => .gT (sameT e.h h) (dpAllMono e.h t)
  | _, _, _, _, _, .gD h k t, _ => .gD (e.h _ _ h) k (dpAllMono e.h t)
  | _, _, _, _, _, .gK h k t, _ => .gK (e.h _ _ h) k (dpAllMono e.h t)
  | _, _, _, _, _, .gN h k t u, _ => .gN (e.h _ _ h) k (dpAllMono e.h t) (dpAllMono e.h u)
  | _, _, _, _, _, .pin h, _ => .pin (e.h _ _ h)
  | _, _, _, _, _, .fr n h, _ => .fr n (owMono e h fun a m => by obtain ⟨u, q⟩ := owThere h a m; exact (e.h _ _ q).trans q.symm)
  | _, _, _, _, _, .mem h, _ => .mem (e.m _ _ h)
  | _, _, _, _, _, .hole, _ => .hole
  | _, _, _, _, _, .jk, _ => .jk
  | _, _, _, _, _, .exc h c t, _ => .exc (e.h _ _ h) c (xdMono e.h t)
  | _, _, _, _, _, .lst h t, f => .lst ((f _ List.mem_cons_self).trans h) (owLMono e t fun a m => f a (List.mem_cons_of_mem _ m))
  | _, _, _, _, _, .tup h t, f => .tup ((f _ List.mem_cons_self).trans h) (owLMono e t fun a m => f a (List.mem_cons_of_mem _ m))
  | _, _, _, _, _, .dK h k t, f => .dK ((f _ List.mem_cons_self).trans h) k (owLMono e t fun a m => f a (List.mem_cons_of_mem _ m))
  | _, _, _, _, _, .dT h k t, f => .dT ((f _ List.mem_cons_self).trans h) k (owLMono e t fun a m => f a (List.mem_cons_of_mem _ m))
  | _, _, _, _, _, .ins h c k t, f => .ins ((f _ List.mem_cons_self).trans h) c k (owLMono e t fun a m => f a (List.mem_cons_of_mem _ m))
  | _, _, _, _, _, .dN h k l t, f => .dN ((f _ List.mem_cons_self).trans h) k l (owLMono e t fun a m => f a (List.mem_cons_of_mem _ m))
theorem owLMono (e : Hf.le Hf') : ∀ {H H' : Hp} {v : List V} {o : List O} {as : List Addr}, OwL K mg Hf H v o as → (∀ a ∈ as, H' a = H a) → OwL K mg Hf' H' v o as
  | _, _, _, _, _, .nil, _ => .nil
  | _, _, _, _, _, .cons h t, f => .cons (owMono e h fun a m => f a (List.mem_append_left _ m)) (owLMono e t fun a m => f a (List.mem_append_right _ m))
end
theorem owLLen : ∀ {vs : List V} {os : List O} {as : List Addr}, OwL K mg Hf H vs os as → vs.length = os.length
  | _, _, _, .nil => rfl
  | _, _, _, .cons _ t => by simp [owLLen t]
theorem owLApp : ∀ {vs : List V} {os : List O} {as : List Addr} {vs' : List V} {os' : List O} {as' : List Addr}, OwL K mg Hf H vs os as → OwL K mg Hf H vs' os' as' → OwL K mg Hf H (vs ++ vs') (os ++ os') (as ++ as')
  | _, _, _, _, _, _, .nil, s => s
  | _, _, _, _, _, _, .cons h t, s => by rw [List.append_assoc]; exact .cons h (owLApp t s)
theorem owLSplit : ∀ {vs : List V} {os : List O} {as : List Addr} {vs' : List V} {os' : List O}, vs.length = os.length → OwL K mg Hf H (vs ++ vs') (os ++ os') as → ∃ a1 a2, as = a1 ++ a2 ∧ OwL K mg Hf H vs os a1 ∧ OwL K mg Hf H vs' os' a2
  | [], [], as, vs', os', _, h => ⟨[], as, rfl, .nil, h⟩
  | v :: vs, o :: os, _, vs', os', e, h => by
    cases h with
    | cons h t =>
      obtain ⟨a1, a2, rfl, h1, h2⟩ := owLSplit (by simpa using e) t
      exact ⟨_ ++ a1, a2, by rw [List.append_assoc], .cons h h1, h2⟩
  | [], _ :: _, _, _, _, e, _ => by simp at e
  | _ :: _, [], _, _, _, e, _ => by simp at e
def frz (Hf : Fz) (H : Hp) (as : List Addr) : Fz := ⟨fun b => if b ∈ as then H b else Hf.h b, Hf.m⟩
theorem frzSame (s : Same Hf.h H) (as : List Addr) : Hf.le (frz Hf H as) := ⟨fun b o e => by
  show (if b ∈ as then H b else Hf.h b) = some o
  by_cases h : b ∈ as
  · rw [if_pos h]; exact s b o e
  · rw [if_neg h]; exact e, fun _ _ h => h⟩
theorem memMono {K : PySem.W.Frag} {Hf Hf' : Hp} {kvs : List (List Key × V)} {g : List Key → Option PyData} (s : Same Hf Hf') (h : MemAt K Hf kvs g) : MemAt K Hf' kvs g := ⟨h.nd, h.fin, fun p m => by
  obtain ⟨x, e, d⟩ := h.val p m
  exact ⟨x, e, dpMono s d⟩⟩
theorem frzIn (s : Hf.on K H) (as : List Addr) (hn : ∀ a ∈ as, Hf.m a = none) : (frz Hf H as).on K H := ⟨fun b o e => by
  have e : (if b ∈ as then H b else Hf.h b) = some o := e
  by_cases h : b ∈ as
  · rw [if_pos h] at e; exact e
  · rw [if_neg h] at e; exact s.same b o e, fun a g e => by
  have e : Hf.m a = some g := e
  obtain ⟨h1, kvs, h2, h3⟩ := s.mem a g e
  refine ⟨?_, kvs, h2, memMono (frzSame s.same as).h h3⟩
  show (if a ∈ as then H a else Hf.h a) = none
  rw [if_neg fun m => by rw [hn a m] at e; cases e]
  exact h1⟩
theorem frzMono (s : Same Hf.h H) {as bs : List Addr} (m : ∀ a ∈ as, a ∈ bs) : (frz Hf H as).le (frz Hf H bs) := ⟨fun b o e => by
  have e : (if b ∈ as then H b else Hf.h b) = some o := e
  show (if b ∈ bs then H b else Hf.h b) = some o
  by_cases h : b ∈ as
  · rw [if_pos h] at e; rw [if_pos (m b h)]; exact e
  · rw [if_neg h] at e
    by_cases h' : b ∈ bs
    · rw [if_pos h']; exact s b o e
    · rw [if_neg h']; exact e, fun _ _ h => h⟩
theorem frzOn (s : Same Hf.h H) (as : List Addr) : Same (frz Hf H as).h H := fun b o e => by
  have e : (if b ∈ as then H b else Hf.h b) = some o := e
  by_cases h : b ∈ as
  · rw [if_pos h] at e; exact e
  · rw [if_neg h] at e; exact s b o e
theorem frzAt {a : Addr} {as : List Addr} (m : a ∈ as) : (frz Hf H as).h a = H a := by
  show (if a ∈ as then H a else Hf.h a) = _
  rw [if_pos m]
theorem frzNot {a : Addr} {as : List Addr} (m : a ∉ as) (h : Hf.no a) : (frz Hf H as).no a := ⟨by
  show (if a ∈ as then H a else Hf.h a) = _
  rw [if_neg m]; exact h.1, h.2⟩
mutual
def O.fz : O → Option PyData
  | .d x => some x
  | .lst xs => match O.fzL xs with | some ds => some (.list ds) | none => none
  | .tup xs => match O.fzL xs with | some ds => if idxS ds = true then none else some (.tuple ds) | none => none
  | _ => none
def O.fzL : List O → Option (List PyData)
  | [] => some []
  | x :: xs => match O.fz x, O.fzL xs with | some y, some ys => some (y :: ys) | _, _ => none
end
mutual
theorem owFz (s : Same Hf.h H) : ∀ {v : V} {o : O} {as : List Addr} {x : PyData}, Ow K mg Hf H v o as → o.fz = some x → Dp K (frz Hf H as).h v x
  | _, _, _, x, .d h, e => by
    simp only [O.fz, Option.some.injEq] at e
    subst e
    exact dpMono (frzSame s _).h h
  | _, _, _, x, .lst (os := os) (as := as) h t, e => by
    simp only [O.fz] at e
    cases q : O.fzL os with
    | none => rw [q] at e; cases e
    | some ds =>
      rw [q] at e
      cases e
      refine .lst ?_ (dpAllMono (frzMono s fun a m => List.mem_cons_of_mem _ m).h (owLFz s t q))
      rw [frzAt List.mem_cons_self]
      exact h
  | _, _, _, x, .tup (os := os) (as := as) h t, e => by
    simp only [O.fz] at e
    cases q : O.fzL os with
    | none => rw [q] at e; cases e
    | some ds =>
      rw [q] at e
      simp only at e
      split at e
      · cases e
      rename_i hi
      cases e
      refine .tup ?_ (by simpa using hi) (dpAllMono (frzMono s fun a m => List.mem_cons_of_mem _ m).h (owLFz s t q))
      rw [frzAt List.mem_cons_self]
      exact h
  | _, _, _, x, .gL h t, e => by simp only [O.fz] at e; cases e
  | _, _, _, x, .gT h t, e => by simp only [O.fz] at e; cases e
  | _, _, _, x, .gD h k t, e => by simp only [O.fz] at e; cases e
  | _, _, _, x, .gK h k t, e => by simp only [O.fz] at e; cases e
  | _, _, _, x, .gN h k t u, e => by simp only [O.fz] at e; cases e
  | _, _, _, x, .pin h, e => by simp only [O.fz] at e; cases e
  | _, _, _, x, .fr n h, e => by simp only [O.fz] at e; cases e
  | _, _, _, x, .mem h, e => by simp only [O.fz] at e; cases e
  | _, _, _, x, .hole, e => by simp only [O.fz] at e; cases e
  | _, _, _, x, .jk, e => by simp only [O.fz] at e; cases e
  | _, _, _, x, .exc _ _ _, e => by simp only [O.fz] at e; cases e
  | _, _, _, x, .dK h k t, e => by simp only [O.fz] at e; cases e
  | _, _, _, x, .dT h k t, e => by simp only [O.fz] at e; cases e
  | _, _, _, x, .ins h c k t, e => by simp only [O.fz] at e; cases e
  | _, _, _, x, .dN h k l t, e => by simp only [O.fz] at e; cases e
theorem owLFz (s : Same Hf.h H) : ∀ {v : List V} {o : List O} {as : List Addr} {x : List PyData}, OwL K mg Hf H v o as → O.fzL o = some x → DpAll K (frz Hf H as).h v x
  | _, _, _, x, .nil, e => by
    simp only [O.fzL, Option.some.injEq] at e
    subst e
    exact .nil
  | _, _, _, x, .cons (o := o) (os := os) (as := as) (bs := bs) h t, e => by
    simp only [O.fzL] at e
    cases q1 : o.fz with
    | none => rw [q1] at e; simp at e
    | some d =>
      cases q2 : O.fzL os with
      | none => rw [q1, q2] at e; simp at e
      | some ds =>
        rw [q1, q2] at e
        cases e
        exact .cons (dpMono (frzMono s fun a m => List.mem_append_left _ m).h (owFz s h q1)) (dpAllMono (frzMono s fun a m => List.mem_append_right _ m).h (owLFz s t q2))
end
end
abbrev Roots := List (V × O)
/-- what is owned is no tuple of plain values alone -/
def NF (H : Hp) (a : Addr) : Prop := ∀ xs, H a = some (.tup xs) → ∃ b, V.ref b ∈ xs
structure Rel (K : PySem.W.Frag) (mg : Str → Option Value) (H : Hp) (Ex : List (Addr × HO)) (rs ws : Roots) : Prop where
  ex : ∃ (Hf : Fz) (as : List Addr), Hf.on K H ∧ (∀ e ∈ Ex, H e.1 = some e.2) ∧ OwL K mg Hf H (rs.map (·.1)) (rs.map (·.2)) as ∧ (Ex.map (·.1) ++ as).Nodup ∧ (∀ a ∈ Ex.map (·.1) ++ as, Hf.no a ∧ NF H a) ∧ ∀ p ∈ ws, ∃ bs, Ow K mg Hf H p.1 p.2 bs
instance {K : PySem.W.Frag} {F : Fz} {H : Hp} : CoeFun (F.on K H) (fun _ => ∀ b o, F.h b = some o → H b = some o) := ⟨fun s => s.same⟩
theorem Fz.on.seq {K : PySem.W.Frag} {F : Fz} {H : Hp} {a : Addr} {vs : List V} (s : F.on K H) (h : SqL K F.h a vs) : SqL K H a vs := s.same.seq h
theorem Fz.on.trans {K : PySem.W.Frag} {F : Fz} {H H' : Hp} (s : F.on K H) (e : Same H H') : F.on K H' := ⟨s.same.trans e, fun a g h => by
  obtain ⟨h1, kvs, h2, h3⟩ := s.mem a g h
  exact ⟨h1, kvs, e _ _ h2, h3⟩⟩
theorem Fz.on.free {K : PySem.W.Frag} {F : Fz} {H : Hp} {p : Addr} (s : F.on K H) (h : H p = none) : F.no p := ⟨s.same.free h, by
  cases q : F.m p with
  | none => rfl
  | some g =>
    obtain ⟨_, kvs, h2, _⟩ := s.mem p g q
    rw [h] at h2; cases h2⟩
theorem Fz.on.upd {K : PySem.W.Frag} {F : Fz} {H : Hp} {p : Addr} {o : HO} (s : F.on K H) (h : F.no p) : F.on K (upd H p o) := ⟨fun b u q => by
  rw [upd_ne (ne_of_none q h.1)]; exact s.same b u q, fun a g e => by
  obtain ⟨h1, kvs, h2, h3⟩ := s.mem a g e
  refine ⟨h1, kvs, ?_, h3⟩
  rw [upd_ne fun z => by rw [z, h.2] at e; cases e]
  exact h2⟩
section
variable {K : PySem.W.Frag} {mg : Str → Option Value} {H H' : Hp} {Ex : List (Addr × HO)} {rs rs' ws ws' : Roots}
theorem owLPerm {Hf : Fz} {l l' : Roots} (p : l.Perm l') : ∀ {as : List Addr}, OwL K mg Hf H (l.map (·.1)) (l.map (·.2)) as → ∃ as', OwL K mg Hf H (l'.map (·.1)) (l'.map (·.2)) as' ∧ as.Perm as' := by
  induction p with
  | nil => intro as h; exact ⟨as, h, .refl _⟩
  | cons x p ih =>
    intro as h
    cases h with
    | cons h t =>
      obtain ⟨as', t', q⟩ := ih t
      exact ⟨_, .cons h t', q.append_left _⟩
  | swap x y l =>
    intro as h
    cases h with
    | cons h t =>
      cases t with
      | cons h2 t2 =>
        refine ⟨_, .cons h2 (.cons h t2), ?_⟩
        rw [← List.append_assoc, ← List.append_assoc]
        exact List.perm_append_comm.append_right _
  | trans p q ih1 ih2 =>
    intro as h
    obtain ⟨a1, h1, q1⟩ := ih1 h
    obtain ⟨a2, h2, q2⟩ := ih2 h1
    exact ⟨a2, h2, q1.trans q2⟩
theorem Rel.perm (r : Rel K mg H Ex rs ws) (p : rs.Perm rs') : Rel K mg H Ex rs' ws := by
  obtain ⟨Hf, as, s, he, ho, nd, hn, hw⟩ := r.ex
  obtain ⟨as', ho', q⟩ := owLPerm p ho
  have q2 : (Ex.map (·.1) ++ as).Perm (Ex.map (·.1) ++ as') := q.append_left _
  exact ⟨Hf, as', s, he, ho', q2.nodup_iff.mp nd, fun a m => hn a (q2.mem_iff.mpr m), hw⟩
theorem Rel.views (r : Rel K mg H Ex rs ws) (m : ∀ p ∈ ws', p ∈ ws) : Rel K mg H Ex rs ws' := by
  obtain ⟨Hf, as, s, he, ho, nd, hn, hw⟩ := r.ex
  exact ⟨Hf, as, s, he, ho, nd, hn, fun p q => hw p (m p q)⟩
theorem Rel.noviews (r : Rel K mg H Ex rs ws) : Rel K mg H Ex rs [] := r.views fun _ h => nomatch h
/-- a root is seen -/
theorem Rel.see {p : V × O} (r : Rel K mg H Ex (p :: rs) ws) : Rel K mg H Ex (p :: rs) (p :: ws) := by
  obtain ⟨Hf, as, s, he, ho, nd, hn, hw⟩ := r.ex
  refine ⟨Hf, as, s, he, ho, nd, hn, fun q m => ?_⟩
  rcases List.mem_cons.mp m with e | m
  · subst e
    cases ho with
    | cons h t => exact ⟨_, h⟩
  · exact hw q m
theorem Rel.drop {p : V × O} (r : Rel K mg H Ex (p :: rs) ws) : Rel K mg H Ex rs ws := by
  obtain ⟨Hf, as, s, he, ho, nd, hn, hw⟩ := r.ex
  cases ho with
  | cons h t =>
    rename_i a1 a2
    have sub : (Ex.map (·.1) ++ a2).Sublist (Ex.map (·.1) ++ (a1 ++ a2)) := (List.sublist_append_right a1 a2).append_left _
    exact ⟨Hf, a2, s, he, t, nd.sublist sub, fun a m => hn a (sub.subset m), hw⟩
theorem Rel.toView {p : V × O} (r : Rel K mg H Ex (p :: rs) ws) : Rel K mg H Ex rs (p :: ws) := r.see.drop
theorem Rel.dropL (l : Roots) (r : Rel K mg H Ex (l ++ rs) ws) : Rel K mg H Ex rs ws := by
  induction l with
  | nil => exact r
  | cons p l ih => exact ih r.drop
/-- data may be had twice -/
theorem Rel.dup {v : V} {x : PyData} (r : Rel K mg H Ex ((v, .d x) :: rs) ws) : Rel K mg H Ex ((v, .d x) :: (v, .d x) :: rs) ws := by
  obtain ⟨Hf, as, s, he, ho, nd, hn, hw⟩ := r.ex
  cases ho with
  | cons h t =>
    cases h with
    | d h => exact ⟨Hf, _, s, he, .cons (.d h) (.cons (.d h) t), nd, hn, hw⟩
/-- all that stood stands -/
theorem Rel.same (r : Rel K mg H Ex rs ws) (e : Same H H') : Rel K mg H' Ex rs ws := by
  obtain ⟨Hf, as, s, he, ho, nd, hn, hw⟩ := r.ex
  have st : ∀ {a : Addr}, (∃ u, H a = some u) → H' a = H a := fun ⟨u, q⟩ => (e _ _ q).trans q.symm
  have nf : ∀ {a : Addr}, (∃ u, H a = some u) → NF H a → NF H' a := fun h q xs e => q xs ((st h).symm.trans e)
  refine ⟨Hf, as, s.trans e, fun p m => e _ _ (he p m), owLMono (Fz.le.refl _) ho fun a m => st (owLThere ho a m), nd, fun a m => ⟨(hn a m).1, nf ?_ (hn a m).2⟩, fun p m => ?_⟩
  · rcases List.mem_append.mp m with m | m
    · obtain ⟨p, mp, rfl⟩ := List.mem_map.mp m
      exact ⟨_, he p mp⟩
    · exact owLThere ho a m
  obtain ⟨bs, h⟩ := hw p m
  exact ⟨bs, owMono (Fz.le.refl _) h fun a m => st (owThere h a m)⟩
theorem sameNew {p : Addr} (h : H p = none) (o : HO) : Same H (upd H p o) := fun b u q => by rw [upd_ne (ne_of_none q h)]; exact q
/-- a new object -/
theorem Rel.new {p : Addr} (o : HO) (r : Rel K mg H Ex rs ws) (h : H p = none) (hnf : ∀ xs, o = .tup xs → ∃ b, V.ref b ∈ xs := by intro _ h; cases h) : Rel K mg (upd H p o) ((p, o) :: Ex) rs ws := by
  obtain ⟨Hf, as, s, he, ho, nd, hn, hw⟩ := (r.same (sameNew h o)).ex
  obtain ⟨Hf0, as0, s0, he0, ho0, nd0, hn0, hw0⟩ := r.ex
  have st : ∀ {a : Addr}, (∃ u, H a = some u) → (upd H p o) a = H a := fun ⟨u, q⟩ => (sameNew h o _ _ q).trans q.symm
  have pe : ∀ {a : Addr}, (∃ u, H a = some u) → a ≠ p := fun ⟨u, q⟩ z => by rw [z, h] at q; cases q
  refine ⟨Hf0, as0, s0.trans (sameNew h o), fun e m => ?_, owLMono (Fz.le.refl _) ho0 fun a m => st (owLThere ho0 a m), ?_, fun a m => ?_, fun p m => ?_⟩
  · rcases List.mem_cons.mp m with e' | m
    · subst e'; exact upd_same
    · exact sameNew h o _ _ (he0 e m)
  · refine List.nodup_cons.mpr ⟨fun m => ?_, nd0⟩
    rcases List.mem_append.mp m with m | m
    · obtain ⟨e, me, q⟩ := List.mem_map.mp m
      exact pe ⟨_, he0 e me⟩ q
    · exact pe (owLThere ho0 _ m) rfl
  · rcases List.mem_cons.mp m with e' | m
    · subst e'
      refine ⟨s0.free h, fun xs e => hnf xs ?_⟩
      rw [upd_same] at e
      exact Option.some.inj e
    · refine ⟨(hn0 a m).1, fun xs e => (hn0 a m).2 xs ?_⟩
      have : ∃ u, H a = some u := by
        rcases List.mem_append.mp m with m | m
        · obtain ⟨p, mp, rfl⟩ := List.mem_map.mp m
          exact ⟨_, he0 p mp⟩
        · exact owLThere ho0 a m
      exact (st this).symm.trans e
  · obtain ⟨bs, h⟩ := hw0 p m
    exact ⟨bs, owMono (Fz.le.refl _) h fun a m => st (owThere h a m)⟩
/-- an object of ours is written -/
theorem Rel.write {p : Addr} {o : HO} (o' : HO) (r : Rel K mg H ((p, o) :: Ex) rs ws) (hnf : ∀ xs, o' = .tup xs → ∃ b, V.ref b ∈ xs := by intro _ h; cases h) : Rel K mg (upd H p o') ((p, o') :: Ex) rs [] := by
  obtain ⟨Hf, as, s, he, ho, nd, hn, hw⟩ := r.ex
  have nd' := List.nodup_cons.mp nd
  have hp : Hf.no p := (hn p List.mem_cons_self).1
  refine ⟨Hf, as, s.upd hp, fun e m => ?_, owLMono (Fz.le.refl _) ho fun a m => upd_ne fun z => nd'.1 (z ▸ List.mem_append_right _ m), nd, fun a m => ?_, fun _ h => nomatch h⟩
  · rcases List.mem_cons.mp m with e' | m
    · subst e'; exact upd_same
    · rw [upd_ne fun z => nd'.1 (List.mem_append_left _ (List.mem_map.mpr ⟨e, m, z⟩))]
      exact he e (List.mem_cons_of_mem _ m)
  · refine ⟨(hn a m).1, fun xs e => ?_⟩
    by_cases z : a = p
    · subst z
      rw [upd_same] at e
      exact hnf xs (Option.some.inj e)
    · rw [upd_ne z] at e
      exact (hn a m).2 xs e
theorem zipMap {α β : Type} : ∀ {l : List α} {m : List β}, l.length = m.length → (l.zip m).map (·.1) = l ∧ (l.zip m).map (·.2) = m
  | [], [], _ => ⟨rfl, rfl⟩
  | a :: l, b :: m, h => by
    obtain ⟨h1, h2⟩ := zipMap (l := l) (m := m) (by simpa using h)
    exact ⟨by simp [h1], by simp [h2]⟩
  | [], _ :: _, h => by simp at h
  | _ :: _, [], h => by simp at h
theorem nodMid {A : List Addr} {a : Addr} {B : List Addr} : (A ++ a :: B).Nodup ↔ (a :: A ++ B).Nodup := (List.perm_middle).nodup_iff
/-- what is to be opened and shut: an owned object and what it holds -/
inductive Opn (mg : Str → Option Value) : O → HO → List V → List O → Prop
  | lst {vs : List V} {os : List O} : Opn mg (.lst os) (.lst vs) vs os
  | tup {vs : List V} {os : List O} : Opn mg (.tup os) (.tup vs) vs os
  | dK {kvs : List (Key × V)} {kos : List (Key × O)} : Keq (kvs.map (·.1)) (kos.map (·.1)) → Opn mg (.dK kos) (.dK kvs) (kvs.map (·.2)) (kos.map (·.2))
  | dT {kvs : List (List Key × V)} {kos : List (List Key × O)} : Keq (kvs.map (·.1)) (kos.map (·.1)) → Opn mg (.dT kos) (.dT kvs) (kvs.map (·.2)) (kos.map (·.2))
  | ins {C dx : Addr} {c : Str} {fvs : List (Str × V)} {fos : List (Str × O)} : mg c = some (.ref C) → fvs.map (·.1) = fos.map (·.1) → Opn mg (.ins c fos) (.ins C dx fvs) (fvs.map (·.2)) (fos.map (·.2))
  | dN {a : Addr} {ks : List NestedKey} {kas : List Addr} {kds : List PyData} {vs : List V} {os : List O} : nkL kds = some ks → kas.length = kds.length → Opn mg (.dN kds os) (ndO a ks kas vs) (kas.map V.ref ++ vs) (kds.map O.d ++ os)
def O.isG : O → Bool
  | .d _ => true
  | .gL _ => true
  | .gT _ => true
  | .gD _ => true
  | .gK _ => true
  | .gN _ _ => true
  | .pin _ => true
  | .fr _ => true
  | .mem _ => true
  | .hole _ => true
  | .jk => true
  | .exc _ _ => true
  | _ => false
theorem owOpn {Hf : Fz} {v : V} {o : O} {as : List Addr} (h : Ow K mg Hf H v o as) (hn : o.isG = false) : ∃ a bs ho vs os, v = .ref a ∧ as = a :: bs ∧ H a = some ho ∧ Opn mg o ho vs os ∧ OwL K mg Hf H vs os bs := by
  cases h with
  | d _ => cases hn
  | gL _ _ => cases hn
  | gT _ _ => cases hn
  | gD _ _ _ => cases hn
  | gK _ _ _ => cases hn
  | gN _ _ _ _ => cases hn
  | pin _ => cases hn
  | fr _ _ => cases hn
  | mem _ => cases hn
  | hole => cases hn
  | jk => cases hn
  | exc _ _ _ => cases hn
  | lst h t => exact ⟨_, _, _, _, _, rfl, rfl, h, .lst, t⟩
  | tup h t => exact ⟨_, _, _, _, _, rfl, rfl, h, .tup, t⟩
  | dK h k t => exact ⟨_, _, _, _, _, rfl, rfl, h, .dK k, t⟩
  | dT h k t => exact ⟨_, _, _, _, _, rfl, rfl, h, .dT k, t⟩
  | ins h c k t => exact ⟨_, _, _, _, _, rfl, rfl, h, .ins c k, t⟩
  | dN h k l t => exact ⟨_, _, _, _, _, rfl, rfl, h, .dN k l, t⟩
theorem Opn.ow {Hf : Fz} {a : Addr} {o : O} {ho : HO} {vs : List V} {os : List O} {bs : List Addr} (p : Opn mg o ho vs os) (h : H a = some ho) (t : OwL K mg Hf H vs os bs) : Ow K mg Hf H (.ref a) o (a :: bs) := by
  cases p with
  | lst => exact .lst h t
  | tup => exact .tup h t
  | dK k => exact .dK h k t
  | dT k => exact .dT h k t
  | ins c k => exact .ins h c k t
  | dN k l => exact .dN h k l t
theorem Rel.opn {v : V} {o : O} (r : Rel K mg H Ex ((v, o) :: rs) ws) (hn : o.isG = false) : ∃ a ho vs os, v = .ref a ∧ H a = some ho ∧ Opn mg o ho vs os ∧ vs.length = os.length ∧ Rel K mg H ((a, ho) :: Ex) (vs.zip os ++ rs) ws := by
  obtain ⟨Hf, as, s, he, ho, nd, hnn, hw⟩ := r.ex
  cases ho with
  | cons h t =>
    rename_i cs
    obtain ⟨a, bs, hob, vs, os, e1, e2, e3, p, q⟩ := owOpn h hn
    subst e2
    have hl := owLLen q
    obtain ⟨z1, z2⟩ := zipMap hl
    refine ⟨a, hob, vs, os, e1, e3, p, hl, ⟨Hf, bs ++ cs, s, fun e m => ?_, ?_, ?_, fun b m => hnn b ?_, hw⟩⟩
    · rcases List.mem_cons.mp m with e' | m
      · subst e'; exact e3
      · exact he e m
    · rw [List.map_append, List.map_append, z1, z2]
      exact owLApp q t
    · rw [List.cons_append] at nd
      exact nodMid.mp nd
    · rw [List.cons_append]
      exact (List.perm_middle (a := a)).mem_iff.mpr m
theorem Rel.shut {a : Addr} {o : O} {ho : HO} {vs : List V} {os : List O} (r : Rel K mg H ((a, ho) :: Ex) (vs.zip os ++ rs) ws) (p : Opn mg o ho vs os) (hl : vs.length = os.length) : Rel K mg H Ex ((.ref a, o) :: rs) ws := by
  obtain ⟨Hf, as, s, he, hob, nd, hnn, hw⟩ := r.ex
  obtain ⟨z1, z2⟩ := zipMap hl
  rw [List.map_append, List.map_append, z1, z2] at hob
  obtain ⟨a1, a2, rfl, h1, h2⟩ := owLSplit hl hob
  refine ⟨Hf, (a :: a1) ++ a2, s, fun e m => he e (List.mem_cons_of_mem _ m), .cons (p.ow (he _ List.mem_cons_self) h1) h2, ?_, fun b m => hnn b ?_, hw⟩
  · rw [List.cons_append]
    exact nodMid.mpr nd
  · rw [List.cons_append] at m
    exact (List.perm_middle (a := a)).mem_iff.mp m
/-- an owned value becomes data -/
theorem Rel.fz {v : V} {o : O} {x : PyData} (r : Rel K mg H Ex ((v, o) :: rs) ws) (e : o.fz = some x) : Rel K mg H Ex ((v, .d x) :: rs) ws := by
  obtain ⟨Hf, as, s, he, hob, nd, hnn, hw⟩ := r.ex
  cases hob with
  | cons h t =>
    rename_i a1 a2
    have q := owFz s.same h e
    have sub : (Ex.map (·.1) ++ a2).Sublist (Ex.map (·.1) ++ (a1 ++ a2)) := (List.sublist_append_right a1 a2).append_left _
    have dj : ∀ a ∈ Ex.map (·.1) ++ a2, a ∉ a1 := fun a m m1 => by
      have hp : (Ex.map (·.1) ++ (a1 ++ a2)).Perm (a1 ++ (Ex.map (·.1) ++ a2)) := by
        rw [← List.append_assoc, ← List.append_assoc]
        exact List.perm_append_comm.append_right _
      have nd2 := hp.nodup_iff.mp nd
      exact (List.nodup_append.mp nd2).2.2 a m1 a m rfl
    refine ⟨frz Hf H a1, a2, frzIn s a1 (fun a m => (hnn a (List.mem_append_right _ (List.mem_append_left _ m))).1.2), he, .cons (as := []) (.d q) (owLMono (frzSame s.same a1) t fun a m => rfl), nd.sublist sub, fun a m => ?_, fun p m => ?_⟩
    · exact ⟨frzNot (dj a m) (hnn a (sub.subset m)).1, (hnn a (sub.subset m)).2⟩
    · obtain ⟨bs, h⟩ := hw p m
      exact ⟨bs, owMono (frzSame s.same a1) h fun a m => rfl⟩
/-- an object of ours that is a tuple of data whose raw object is known becomes data -/
theorem Rel.shutF {p : Addr} {ob : Obj} {vs : List V} {ds : List PyData} (r : Rel K mg H ((p, .frz ob (.tup vs)) :: Ex) rs ws) (ho : ob.dict = none) (hi : idxS ds = true)
    (hv : ∀ (Hf : Fz) (as : List Addr), OwL K mg Hf H (rs.map (·.1)) (rs.map (·.2)) as → DpAll K Hf.h vs ds) : Rel K mg H Ex ((.ref p, .d (.tuple ds)) :: rs) ws := by
  obtain ⟨Hf, as, s, he, hob, nd, hnn, hw⟩ := r.ex
  have ep : H p = some (.frz ob (.tup vs)) := he (p, .frz ob (.tup vs)) List.mem_cons_self
  have nd' := List.nodup_cons.mp nd
  refine ⟨frz Hf H [p], as, frzIn s [p] (fun a m => by rw [List.mem_singleton.mp m]; exact (hnn p List.mem_cons_self).1.2), fun e m => he e (List.mem_cons_of_mem _ m), .cons (as := []) (.d (.ftup ?_ ho hi (dpAllMono (frzSame s.same [p]).h (hv Hf as hob)))) (owLMono (frzSame s.same [p]) hob fun a m => rfl), nd'.2, fun a m => ?_, fun q m => ?_⟩
  · rw [frzAt List.mem_cons_self]
    exact ep
  · have ne : a ≠ p := fun z => nd'.1 (by subst z; exact m)
    exact ⟨frzNot (by simpa using ne) (hnn a (List.mem_cons_of_mem _ m)).1, (hnn a (List.mem_cons_of_mem _ m)).2⟩
  · obtain ⟨bs, h⟩ := hw q m
    exact ⟨bs, owMono (frzSame s.same [p]) h fun a m => rfl⟩
/-- a new tuple of data -/
theorem Rel.newD {p : Addr} {vs : List V} {ds : List PyData} (r : Rel K mg H Ex rs ws) (h : H p = none) (hi : idxS ds = false)
    (hv : ∀ (Hf : Fz) (as : List Addr), OwL K mg Hf H (rs.map (·.1)) (rs.map (·.2)) as → DpAll K Hf.h vs ds) : Rel K mg (upd H p (.tup vs)) Ex ((.ref p, .d (.tuple ds)) :: rs) ws := by
  obtain ⟨Hf, as, s, he, ho, nd, hn, hw⟩ := r.ex
  have sn : Same H (upd H p (.tup vs)) := sameNew h _
  have s' : Hf.on K (upd H p (.tup vs)) := s.trans sn
  have st : ∀ {a : Addr}, (∃ u, H a = some u) → upd H p (.tup vs) a = H a := fun ⟨u, q⟩ => (sn _ _ q).trans q.symm
  have pe : ∀ {a : Addr}, (∃ u, H a = some u) → a ≠ p := fun ⟨u, q⟩ z => by rw [z, h] at q; cases q
  have th : ∀ a ∈ Ex.map (·.1) ++ as, ∃ u, H a = some u := fun a m => by
    rcases List.mem_append.mp m with m | m
    · obtain ⟨q, mq, rfl⟩ := List.mem_map.mp m
      exact ⟨_, he q mq⟩
    · exact owLThere ho a m
  refine ⟨frz Hf (upd H p (.tup vs)) [p], as, frzIn s' [p] (fun a m => by rw [List.mem_singleton.mp m]; exact (s.free h).2), fun e m => sn _ _ (he e m), .cons (as := []) (.d (.tup ?_ hi (dpAllMono (frzSame s'.same [p]).h (hv Hf as ho)))) (owLMono (frzSame s'.same [p]) ho fun a m => st (owLThere ho a m)), nd, fun a m => ⟨frzNot (by simpa using pe (th a m)) (hn a m).1, fun xs e => (hn a m).2 xs ((st (th a m)).symm.trans e)⟩, fun q m => ?_⟩
  · rw [frzAt List.mem_cons_self, upd_same]
  · obtain ⟨bs, hb⟩ := hw q m
    exact ⟨bs, owMono (frzSame s'.same [p]) hb fun a m => st (owThere hb a m)⟩
theorem owRef {Hf : Fz} {H : Hp} {v : V} {o : O} {as : List Addr} (h : Ow K mg Hf H v o as) (n : o.nd = true) : ∃ b, v = .ref b := by
  cases h with
  | d _ => cases n
  | fr _ _ => cases n
  | gL _ _ => exact ⟨_, rfl⟩
  | gT _ _ => exact ⟨_, rfl⟩
  | gD _ _ _ => exact ⟨_, rfl⟩
  | gK _ _ _ => exact ⟨_, rfl⟩
  | gN _ _ _ _ => exact ⟨_, rfl⟩
  | pin _ => exact ⟨_, rfl⟩
  | mem _ => exact ⟨_, rfl⟩
  | hole => exact ⟨_, rfl⟩
  | jk => exact ⟨_, rfl⟩
  | exc _ _ _ => exact ⟨_, rfl⟩
  | lst _ _ => exact ⟨_, rfl⟩
  | tup _ _ => exact ⟨_, rfl⟩
  | dK _ _ _ => exact ⟨_, rfl⟩
  | dT _ _ _ => exact ⟨_, rfl⟩
  | ins _ _ _ _ => exact ⟨_, rfl⟩
  | dN _ _ _ _ => exact ⟨_, rfl⟩
theorem owLRef {Hf : Fz} : ∀ {vs : List V} {os : List O} {as : List Addr}, OwL K mg Hf H vs os as → (∃ o ∈ os, ∀ x, o ≠ .d x) → ∃ b, V.ref b ∈ vs
  | _, _, _, .nil, h => by obtain ⟨o, m, _⟩ := h; cases m
  | _, _, _, .cons h t, q => by
    obtain ⟨o, m, ne⟩ := q
    rcases List.mem_cons.mp m with e | m
    · subst e
      cases h with
      | d _ => exact absurd rfl (ne _)
      | gL _ _ => exact ⟨_, List.mem_cons_self⟩
      | gT _ _ => exact ⟨_, List.mem_cons_self⟩
      | gD _ _ _ => exact ⟨_, List.mem_cons_self⟩
      | gK _ _ _ => exact ⟨_, List.mem_cons_self⟩
      | gN _ _ _ _ => exact ⟨_, List.mem_cons_self⟩
      | pin _ => exact ⟨_, List.mem_cons_self⟩
      | mem _ => exact ⟨_, List.mem_cons_self⟩
      | hole => exact ⟨_, List.mem_cons_self⟩
      | jk => exact ⟨_, List.mem_cons_self⟩
      | exc _ _ _ => exact ⟨_, List.mem_cons_self⟩
      | fr n h => obtain ⟨b, rfl⟩ := owRef h n; exact ⟨_, List.mem_cons_self⟩
      | lst _ _ => exact ⟨_, List.mem_cons_self⟩
      | tup _ _ => exact ⟨_, List.mem_cons_self⟩
      | dK _ _ _ => exact ⟨_, List.mem_cons_self⟩
      | dT _ _ _ => exact ⟨_, List.mem_cons_self⟩
      | ins _ _ _ _ => exact ⟨_, List.mem_cons_self⟩
      | dN _ _ _ _ => exact ⟨_, List.mem_cons_self⟩
    · obtain ⟨b, mb⟩ := owLRef t ⟨o, m, ne⟩
      exact ⟨b, List.mem_cons_of_mem _ mb⟩
/-- plain data -/
theorem Rel.data {v : V} {x : PyData} (r : Rel K mg H Ex rs ws) (h : ∀ Hf : Hp, Dp K Hf v x) : Rel K mg H Ex ((v, .d x) :: rs) ws := by
  obtain ⟨Hf, as, s, he, hob, nd, hnn, hw⟩ := r.ex
  exact ⟨Hf, as, s, he, .cons (as := []) (.d (h Hf.h)) hob, nd, hnn, hw⟩
end
end Z
namespace Z
open PySem PySem.Spec L2
abbrev Gs := List (Option O)
structure Exn where
  c : Str
  fs : List (Str × PyData)
inductive Res (α : Type) where
  | ok (a : α) (e : Gs)
  | ex (x : Exn) (e : Gs)
  | bad
  | all (f : V → Res α)
def Res.bdR {α β : Type} : Res α → (α → Gs → Res β) → Res β
  | .ok a e, k => k a e
  | .ex x e, _ => .ex x e
  | .bad, _ => .bad
  | .all f, k => .all fun v => (f v).bdR k
/-- as bdR; one turn is looked at alone -/
def Res.bd {α β : Type} (r : Res α) (k : α → Gs → Res β) : Res β := match r with
  | .ok a e => k a e
  | .ex x e => .ex x e
  | .bad => .bad
  | .all f => .all fun v => (f v).bdR k
theorem Res.bdR_eq {α β : Type} {k : α → Gs → Res β} : ∀ {r : Res α}, r.bdR k = r.bd k
  | .ok _ _ => rfl
  | .ex _ _ => rfl
  | .bad => rfl
  | .all _ => rfl
def M (α : Type) : Type := Gs → Res α
def M.ret {α : Type} (a : α) : M α := fun e => .ok a e
def M.bd {α β : Type} (m : M α) (f : α → M β) : M β := fun e => (m e).bd f
instance : Monad M where
  pure := M.ret
  bind := M.bd
def M.no {α : Type} : M α := fun _ => .bad
def WpR {α : Type} (r : Res α) (A : α → Gs → Prop) (B : Exn → Gs → Prop) : Prop := match r with
  | .ok a e => A a e
  | .ex x e => B x e
  | .bad => False
  | .all f => ∀ v, WpR (f v) A B
def Wp {α : Type} (r : Res α) (A : α → Gs → Prop) (B : Exn → Gs → Prop) : Prop := match r with
  | .ok a e => A a e
  | .ex x e => B x e
  | .bad => False
  | .all f => ∀ v, WpR (f v) A B
theorem wpR_eq {α : Type} {A : α → Gs → Prop} {B : Exn → Gs → Prop} : ∀ {r : Res α}, WpR r A B = Wp r A B
  | .ok _ _ => rfl
  | .ex _ _ => rfl
  | .bad => rfl
  | .all _ => rfl
theorem wp_all {α : Type} {f : V → Res α} {A : α → Gs → Prop} {B : Exn → Gs → Prop} : Wp (.all f) A B ↔ ∀ v, Wp (f v) A B := forall_congr' fun v => by rw [wpR_eq]
theorem Res.wp_bd {α β : Type} {f : α → Gs → Res β} {A : β → Gs → Prop} {B : Exn → Gs → Prop} : ∀ {r : Res α}, Wp (r.bd f) A B ↔ Wp r (fun a e' => Wp (f a e') A B) B
  | .ok a e => Iff.rfl
  | .ex x e => Iff.rfl
  | .bad => Iff.rfl
  | .all g => wp_all.trans ((forall_congr' fun v => by rw [Res.bdR_eq]; exact Res.wp_bd (r := g v)).trans wp_all.symm)
theorem Wp.bd {α β : Type} {m : M α} {f : α → M β} {e : Gs} {A : β → Gs → Prop} {B : Exn → Gs → Prop} (h : Wp (M.bd m f e) A B) : Wp (m e) (fun a e' => Wp (f a e') A B) B := Res.wp_bd.mp h
theorem Wp.imp {α : Type} {A A' : α → Gs → Prop} {B B' : Exn → Gs → Prop} : ∀ {r : Res α}, Wp r A B → (∀ a e, A a e → A' a e) → (∀ x e, B x e → B' x e) → Wp r A' B'
  | .ok a e, h, ha, hb => ha _ _ h
  | .ex x e, h, ha, hb => hb _ _ h
  | .bad, h, ha, hb => h
  | .all g, h, ha, hb => wp_all.mpr fun v => Wp.imp (r := g v) (wp_all.mp h v) ha hb
def roots : St → Gs → Roots
  | some v :: σ, some o :: g => (v, o) :: roots σ g
  | _ :: σ, _ :: g => roots σ g
  | _, _ => []
structure Fit (σ : St) (g : Gs) : Prop where
  len : σ.length = g.length
  at_ : ∀ (i : Nat) (o : O), g[i]? = some (some o) → ∃ v : V, σ[i]? = some (some v)
theorem Fit.clr {σ : St} {g : Gs} (f : Fit σ g) (i : Nat) : Fit σ (g.set i none) := ⟨by rw [List.length_set]; exact f.len, fun j o h => by
  by_cases e : i = j
  · subst e
    rw [List.getElem?_set] at h
    simp at h
  · rw [List.getElem?_set_ne e] at h
    exact f.at_ j o h⟩
theorem Fit.set {σ : St} {g : Gs} (f : Fit σ g) (i : Nat) (v : V) (o : Option O) : Fit (σ.set i (some v)) (g.set i o) := ⟨by rw [List.length_set, List.length_set]; exact f.len, fun j o' h => by
  by_cases e : i = j
  · subst e
    have hl : i < σ.length := by
      rw [f.len]
      rw [List.getElem?_set] at h
      by_cases q : i < g.length
      · exact q
      · simp [q] at h
    exact ⟨v, List.getElem?_set_self hl⟩
  · rw [List.getElem?_set_ne e] at h
    rw [List.getElem?_set_ne e]
    exact f.at_ j o' h⟩
theorem rootsGet : ∀ {σ : St} {g : Gs} {i : Nat} {v : V} {o : O}, σ[i]? = some (some v) → g[i]? = some (some o) → (roots σ g).Perm ((v, o) :: roots σ (g.set i none))
  | [], _, _, _, _, h, _ => by simp at h
  | _ :: _, [], _, _, _, _, h => by simp at h
  | s :: σ, p :: g, 0, v, o, h1, h2 => by
    simp only [List.getElem?_cons_zero, Option.some.injEq] at h1 h2
    subst h1; subst h2
    simp only [List.set_cons_zero, roots]
    exact .refl _
  | s :: σ, p :: g, i + 1, v, o, h1, h2 => by
    simp only [List.getElem?_cons_succ] at h1 h2
    have ih := rootsGet h1 h2
    simp only [List.set_cons_succ]
    cases s with
    | none => simpa only [roots] using ih
    | some w =>
      cases p with
      | none => simpa only [roots] using ih
      | some q =>
        simp only [roots]
        exact (ih.cons _).trans (.swap _ _ _)
theorem rootsSet : ∀ {σ : St} {g : Gs} {i : Nat} {v : V} {o : O}, i < σ.length → i < g.length → (roots (σ.set i (some v)) (g.set i (some o))).Perm ((v, o) :: roots σ (g.set i none))
  | [], _, _, _, _, h, _ => by simp at h
  | _ :: _, [], _, _, _, _, h => by simp at h
  | s :: σ, p :: g, 0, v, o, h1, h2 => by
    simp only [List.set_cons_zero]
    cases s <;> (simp only [roots]; exact .refl _)
  | s :: σ, p :: g, i + 1, v, o, h1, h2 => by
    have ih := rootsSet (σ := σ) (g := g) (i := i) (v := v) (o := o) (by simpa using h1) (by simpa using h2)
    simp only [List.set_cons_succ]
    cases s with
    | none => simpa only [roots] using ih
    | some w =>
      cases p with
      | none => simpa only [roots] using ih
      | some q =>
        simp only [roots]
        exact (ih.cons _).trans (.swap _ _ _)
theorem rootsNone : ∀ {σ : St} {g : Gs} {i : Nat} {x : Option V}, roots (σ.set i x) (g.set i none) = roots σ (g.set i none)
  | [], _, _, _ => by simp
  | s :: σ, [], i, x => by cases i <;> simp [roots]
  | s :: σ, p :: g, 0, x => by
    simp only [List.set_cons_zero]
    cases s <;> cases x <;> simp [roots]
  | s :: σ, p :: g, i + 1, x => by
    have ih := rootsNone (σ := σ) (g := g) (i := i) (x := x)
    simp only [List.set_cons_succ]
    cases s with
    | none => simpa only [roots] using ih
    | some w => cases p <;> simp only [roots, ih]
theorem setNone {g : Gs} {i : Nat} (h : ∀ o, g[i]? ≠ some (some o)) : g.set i none = g := by
  apply List.ext_getElem?
  intro j
  by_cases e : i = j
  · subst e
    rw [List.getElem?_set]
    by_cases q : i < g.length
    · simp only [if_true, q]
      cases z : g[i]? with
      | none => rw [List.getElem?_eq_none_iff] at z; omega
      | some y =>
        cases y with
        | none => rfl
        | some o => exact absurd z (h o)
    · simp only [if_true, q, if_false]
      exact (List.getElem?_eq_none (by omega)).symm
  · rw [List.getElem?_set_ne e]
section
variable {K : PySem.W.Frag} {mg : Str → Option Value} {H H' : Hp} {Ex : List (Addr × HO)} {T ws : Roots} {σ : St} {g : Gs}
theorem Rel.clr (r : Rel K mg H Ex (roots σ g ++ T) ws) (f : Fit σ g) (i : Nat) : Rel K mg H Ex (roots σ (g.set i none) ++ T) ws := by
  cases q : g[i]? with
  | none => rw [setNone (by intro o; rw [q]; simp)]; exact r
  | some y =>
    cases y with
    | none => rw [setNone (by intro o; rw [q]; simp)]; exact r
    | some o =>
      obtain ⟨v, hv⟩ := f.at_ i o q
      exact (r.perm ((rootsGet hv q).append_right T)).drop
theorem Rel.setAt {v : V} {o : O} {i : Nat} (r : Rel K mg H Ex (roots σ g ++ ((v, o) :: T)) ws) (f : Fit σ g) (hi : i < σ.length) : Rel K mg H Ex (roots (σ.set i (some v)) (g.set i (some o)) ++ T) ws := by
  have r1 := r.clr f i
  have r2 : Rel K mg H Ex ((v, o) :: (roots σ (g.set i none) ++ T)) ws := r1.perm List.perm_middle
  exact r2.perm ((rootsSet hi (f.len ▸ hi)).symm.append_right T)
end
/-- a field of an exception: plain values alone -/
def vF : PyData → V
  | .bool b => .bl b
  | .int i => .int i
  | .str s => .str s
  | _ => .non
def flatF : PyData → Bool
  | .none => true
  | .bool _ => true
  | .int _ => true
  | .str _ => true
  | _ => false
def ExAt (mg : Str → Option Value) (Ex : List (Addr × HO)) (cls : Value) (d : Option Addr) (H : Hp) (x : Exn) : Prop :=
  ∃ C, cls = .ref C ∧ mg x.c = some (.ref C) ∧ ((x.fs = [] ∧ d = none) ∨ ∃ dd, d = some dd ∧ H dd = some (.xd (x.fs.map fun p => (p.1, vF p.2))) ∧ dd ∉ Ex.map (·.1) ∧ ∀ p ∈ x.fs, flatF p.2 = true)
structure At (X : Cx) (H : Hp) (Ex : List (Addr × HO)) (σ : St) (g : Gs) (T ws : Roots) : Prop where
  fit : Fit σ g
  rel : Rel X.K X.mg H Ex (roots σ g ++ T) ws
def Vs (pu : Bool) (ws : Roots) : Roots := if pu = true then ws else []
theorem vsSub {pu : Bool} {ws : Roots} : ∀ p ∈ Vs pu ws, p ∈ ws := fun p m => by
  unfold Vs at m
  split at m
  · exact m
  · cases m
section
variable {X : Cx} {H H' : Hp} {Ex : List (Addr × HO)} {σ : St} {g : Gs} {T T' ws ws' : Roots}
theorem At.views (a : At X H Ex σ g T ws) (m : ∀ p ∈ ws', p ∈ ws) : At X H Ex σ g T ws' := ⟨a.fit, a.rel.views m⟩
theorem At.same (a : At X H Ex σ g T ws) (e : Same H H') : At X H' Ex σ g T ws := ⟨a.fit, a.rel.same e⟩
theorem At.perm (a : At X H Ex σ g T ws) (p : T.Perm T') : At X H Ex σ g T' ws := ⟨a.fit, a.rel.perm (p.append_left _)⟩
theorem At.top {p : V × O} (a : At X H Ex σ g (p :: T) ws) : Rel X.K X.mg H Ex (p :: (roots σ g ++ T)) ws := a.rel.perm List.perm_middle
theorem At.ofTop {p : V × O} (f : Fit σ g) (r : Rel X.K X.mg H Ex (p :: (roots σ g ++ T)) ws) : At X H Ex σ g (p :: T) ws := ⟨f, r.perm List.perm_middle.symm⟩
theorem At.drop {p : V × O} (a : At X H Ex σ g (p :: T) ws) : At X H Ex σ g T ws := ⟨a.fit, a.top.drop⟩
theorem At.toView {p : V × O} (a : At X H Ex σ g (p :: T) ws) : At X H Ex σ g T (p :: ws) := ⟨a.fit, a.top.toView⟩
theorem At.data {v : V} {x : PyData} (a : At X H Ex σ g T ws) (h : ∀ Hf, Dp X.K Hf v x) : At X H Ex σ g ((v, .d x) :: T) ws := .ofTop a.fit (a.rel.data h)
end
structure Ev (X : Cx) (W : WX) (pu : Bool) (e : Expr) (m : M O) : Prop where
  ex : ∃ t, PE X e t ∧ ∀ (σ : St) (H : Hp) (Q : VK) (g : Gs) (T : Roots) (Ex : List (Addr × HO)) (ws : Roots), At X H Ex σ g T ws →
    Wp (m g) (fun o g' => ∀ v H', (pu = true → g' = g ∧ Same H H') → At X H' Ex σ g' ((v, o) :: T) (Vs pu ws) → Q v H')
      (fun x g' => ∀ H' cls d, At X H' Ex σ g' T [] → ExAt X.mg Ex cls d H' x → W cls d σ H') → t σ H Q
structure EvP (X : Cx) (W : WX) (pu : Bool) (e : Expr) (m : M O) : Prop where
  ex : ∃ t, PE X e t ∧ ∀ (σ : St) (H : Hp) (Q : VK) (g : Gs) (T : Roots) (Ex : List (Addr × HO)) (ws : Roots), At X H Ex σ g T ws →
    Wp (m g) (fun o g' => ∀ v H', (pu = true → g' = g ∧ Same H H') → At X H' Ex σ g' T ((v, o) :: Vs pu ws) → Q v H')
      (fun x g' => ∀ H' cls d, At X H' Ex σ g' T [] → ExAt X.mg Ex cls d H' x → W cls d σ H') → t σ H Q
structure EvT (X : Cx) (W : WX) (pu : Bool) (e : Expr) (m : M Bool) : Prop where
  ex : ∃ t, PT X e t ∧ ∀ (σ : St) (H : Hp) (Q : Bool → Hp → Prop) (g : Gs) (T : Roots) (Ex : List (Addr × HO)) (ws : Roots), At X H Ex σ g T ws →
    Wp (m g) (fun b g' => ∀ H', (pu = true → g' = g ∧ Same H H') → At X H' Ex σ g' T (Vs pu ws) → Q b H')
      (fun x g' => ∀ H' cls d, At X H' Ex σ g' T [] → ExAt X.mg Ex cls d H' x → W cls d σ H') → t σ H Q
/-- and, or: a test whatever its whole is -/
structure EvW (X : Cx) (W : WX) (pu : Bool) (e : Expr) (m : M Bool) : Prop where
  ex : ∃ t, PW X e t ∧ ∀ (σ : St) (H : Hp) (Q : Bool → Hp → Prop) (g : Gs) (T : Roots) (Ex : List (Addr × HO)) (ws : Roots), At X H Ex σ g T ws →
    Wp (m g) (fun b g' => ∀ H', (pu = true → g' = g ∧ Same H H') → At X H' Ex σ g' T (Vs pu ws) → Q b H')
      (fun x g' => ∀ H' cls d, At X H' Ex σ g' T [] → ExAt X.mg Ex cls d H' x → W cls d σ H') → t σ H Q
theorem EvW.t {X : Cx} {W : WX} {pu : Bool} {e : Expr} {m : M Bool} (h : EvW X W pu e m) : EvT X W pu e m := by
  obtain ⟨t, h1, h2⟩ := h.ex
  exact ⟨t, h1.pt, h2⟩
def tAll : List TE → TA
  | [] => tNil
  | t :: ts => tCons t (tAll ts)
inductive PEs (X : Cx) : List Expr → List TE → Prop
  | nil : PEs X [] []
  | cons {e : Expr} {es : List Expr} {t : TE} {ts : List TE} : PE X e t → (starEach (e :: es) X.env = (false, eval e X.env) :: starEach es X.env) → PEs X es ts → PEs X (e :: es) (t :: ts)
theorem PEs.pa {X : Cx} : ∀ {es : List Expr} {ts : List TE}, PEs X es ts → PA X es (tAll ts)
  | _, _, .nil => pa_nil
  | _, _, .cons h s t => pa_cons h t.pa s
/-- operands, from the left, to be looked at -/
structure EvAs (X : Cx) (W : WX) (pu : Bool) (es : List Expr) (m : M (List O)) : Prop where
  ex : ∃ ts, PEs X es ts ∧ ∀ (σ : St) (H : Hp) (Q : List V → Hp → Prop) (g : Gs) (T : Roots) (Ex : List (Addr × HO)) (ws : Roots), At X H Ex σ g T ws →
    Wp (m g) (fun os g' => ∀ vs H', vs.length = os.length → (pu = true → g' = g ∧ Same H H') → At X H' Ex σ g' T (vs.zip os ++ Vs pu ws) → Q vs H')
      (fun x g' => ∀ H' cls d, At X H' Ex σ g' T [] → ExAt X.mg Ex cls d H' x → W cls d σ H') → tAll ts σ H Q
section
variable {X : Cx} {W : WX} {pu pv : Bool} {e a b : Expr} {es : List Expr} {m ma mb : M O}
theorem vsVs {p q : Bool} {ws : Roots} : Vs q (Vs p ws) = Vs (p && q) ws := by cases p <;> cases q <;> rfl
/-- a value is looked at -/
theorem Ev.p (h : Ev X W pu e m) : EvP X W pu e m := by
  obtain ⟨t, h1, h2⟩ := h.ex
  exact ⟨t, h1, fun σ H Q g T Ex ws a w => h2 σ H Q g T Ex ws a (w.imp (fun o g' k v H' s a' => k v H' s a'.toView) fun _ _ k => k)⟩
theorem eas_nil : EvAs X W true [] (M.ret []) := ⟨[], .nil, fun σ H Q g T Ex ws a w => w [] H rfl (fun _ => ⟨rfl, Same.refl _⟩) a⟩
def consM (m : M O) (ms : M (List O)) : M (List O) := M.bd m fun o => M.bd ms fun os => M.ret (o :: os)
/-- the first one had while the others are reckoned -/
theorem eas_e {m : M O} {ms : M (List O)} (h : Ev X W pu e m) (hs : EvAs X W pv es ms) (st : starEach (e :: es) X.env = (false, eval e X.env) :: starEach es X.env := by rfl) : EvAs X W (pu && pv) (e :: es) (consM m ms) := by
  obtain ⟨t, h1, h2⟩ := h.ex
  obtain ⟨ts, g1, g2⟩ := hs.ex
  refine ⟨t :: ts, .cons h1 st g1, fun σ H Q g T Ex ws a w => ?_⟩
  refine h2 σ H _ g T Ex ws a (w.bd.imp (fun o g' k v H' s a' => ?_) fun _ _ k => k)
  refine g2 σ H' _ g' _ Ex _ a' (k.bd.imp (fun os g2 k vs H2 hl s2 a2 => ?_) fun x g2 k H2 cls d a2 => k H2 cls d a2.drop)
  refine k (v :: vs) H2 (by simp [hl]) (fun z => ?_) (a2.toView.views fun p m => ?_)
  · have z' := Bool.and_eq_true_iff.mp z
    obtain ⟨e1, e2⟩ := s z'.1
    obtain ⟨e3, e4⟩ := s2 z'.2
    exact ⟨e3.trans e1, e2.trans e4⟩
  · rw [vsVs]
    simpa using m
/-- the first one is looked at, the others change nothing -/
theorem eas_p {m : M O} {ms : M (List O)} (h : EvP X W pu e m) (hs : EvAs X W true es ms) (st : starEach (e :: es) X.env = (false, eval e X.env) :: starEach es X.env := by rfl) : EvAs X W pu (e :: es) (consM m ms) := by
  obtain ⟨t, h1, h2⟩ := h.ex
  obtain ⟨ts, g1, g2⟩ := hs.ex
  refine ⟨t :: ts, .cons h1 st g1, fun σ H Q g T Ex ws a w => ?_⟩
  refine h2 σ H _ g T Ex ws a (w.bd.imp (fun o g' k v H' s a' => ?_) fun _ _ k => k)
  refine g2 σ H' _ g' _ Ex _ a' (k.bd.imp (fun os g2 k vs H2 hl s2 a2 => ?_) fun x g2 k H2 cls d a2 => k H2 cls d a2)
  obtain ⟨e3, e4⟩ := s2 rfl
  refine k (v :: vs) H2 (by simp [hl]) (fun z => ?_) (a2.views fun p m => ?_)
  · obtain ⟨e1, e2⟩ := s z
    exact ⟨e3.trans e1, e2.trans e4⟩
  · simp only [Vs, if_true, List.zip_cons_cons, List.cons_append, List.mem_cons, List.mem_append] at m ⊢
    rcases m with m | m | m
    · exact .inr (.inl m)
    · exact .inl m
    · exact .inr (.inr m)
def PR (X : Cx) (r : List V → Hp → VK → Prop) (f : List O → Option O) : Prop :=
  ∀ (xs : List V) (os : List O) (H : Hp) (Ex : List (Addr × HO)) (rs ws : Roots) (Q : VK) (o : O), xs.length = os.length → Rel X.K X.mg H Ex rs (xs.zip os ++ ws) → f os = some o →
    (∀ v H', Same H H' → Rel X.K X.mg H' Ex ((v, o) :: rs) (xs.zip os ++ ws) → Q v H') → r xs H Q
def liftM (f : List O → Option O) (os : List O) : M O := fun g => match f os with
  | some o => .ok o g
  | none => .bad
theorem wpLift {f : List O → Option O} {os : List O} {g : Gs} {A : O → Gs → Prop} {B : Exn → Gs → Prop} (h : Wp (liftM f os g) A B) : ∃ o, f os = some o ∧ A o g := by
  unfold liftM Wp at h
  cases q : f os with
  | none => rw [q] at h; exact h.elim
  | some o => rw [q] at h; exact ⟨o, rfl, h⟩
/-- two operands -/
def r2L (r : R2) : List V → Hp → VK → Prop := fun xs H Q => match xs with
  | [x, y] => r x y H Q
  | _ => False
def opM (f : List O → Option O) (ms : M (List O)) : M O := M.bd ms (liftM f)
theorem opCore {r : List V → Hp → VK → Prop} {f : List O → Option O} {ms : M (List O)} {ts : List TE} (pr : PR X r f)
    (g2 : ∀ (σ : St) (H : Hp) (Q : List V → Hp → Prop) (g : Gs) (T : Roots) (Ex : List (Addr × HO)) (ws : Roots), At X H Ex σ g T ws →
      Wp (ms g) (fun os g' => ∀ vs H', vs.length = os.length → (pu = true → g' = g ∧ Same H H') → At X H' Ex σ g' T (vs.zip os ++ Vs pu ws) → Q vs H')
        (fun x g' => ∀ H' cls d, At X H' Ex σ g' T [] → ExAt X.mg Ex cls d H' x → W cls d σ H') → tAll ts σ H Q) :
    ∀ (σ : St) (H : Hp) (Q : VK) (g : Gs) (T : Roots) (Ex : List (Addr × HO)) (ws : Roots), At X H Ex σ g T ws →
      Wp (opM f ms g) (fun o g' => ∀ v H', (pu = true → g' = g ∧ Same H H') → At X H' Ex σ g' ((v, o) :: T) (Vs pu ws) → Q v H')
        (fun x g' => ∀ H' cls d, At X H' Ex σ g' T [] → ExAt X.mg Ex cls d H' x → W cls d σ H') → tAll ts σ H fun xs H2 => r xs H2 Q := fun σ H Q g T Ex ws a w => by
  refine g2 σ H _ g T Ex ws a (w.bd.imp (fun os g' k vs H' hl s a' => ?_) fun _ _ k => k)
  obtain ⟨o, ho, k⟩ := wpLift k
  refine pr vs os H' Ex _ _ Q o hl a'.rel ho fun v H2 s2 r2 => k v H2 (fun z => ?_) (.ofTop a'.fit (r2.views fun p m => List.mem_append_right _ m))
  obtain ⟨e1, e2⟩ := s z
  exact ⟨e1, e2.trans s2⟩
theorem ev_op {op : Operator} {r : R2} {f : List O → Option O} {ms : M (List O)} {pos : Pos} (ho : OpR X (binaryOp op) r) (pr : PR X (r2L r) f) (h : EvAs X W pu [a, b] ms) : Ev X W pu (.BinOp a op b pos) (opM f ms) := by
  obtain ⟨ts, g1, g2⟩ := h.ex
  cases g1 with
  | cons p1 _ g1 =>
    cases g1 with
    | cons p2 _ g1 =>
      cases g1
      exact ⟨_, pe_op ho p1 p2, opCore pr g2⟩
theorem ev_cmp {op : CmpOp} {r : R2} {f : List O → Option O} {ms : M (List O)} {pos : Pos} (ho : OpR X (compareOp op) r) (pr : PR X (r2L r) f) (h : EvAs X W pu [a, b] ms) (hm : behindInMarks op b = false) : Ev X W pu (.Compare a [op] [b] pos) (opM f ms) := by
  obtain ⟨ts, g1, g2⟩ := h.ex
  cases g1 with
  | cons p1 _ g1 =>
    cases g1 with
    | cons p2 _ g1 =>
      cases g1
      exact ⟨_, pe_cmpR ho p1 p2 hm, opCore pr g2⟩
def asB : O → M Bool := fun o g => match o with
  | .d (.bool b) => .ok b g
  | _ => .bad
theorem wpB {o : O} {g : Gs} {A : Bool → Gs → Prop} {B : Exn → Gs → Prop} (h : Wp (asB o g) A B) : ∃ b, o = .d (.bool b) ∧ A b g := by
  unfold asB at h
  split at h
  · exact ⟨_, rfl, h⟩
  · exact h.elim
theorem Rel.isB {K : PySem.W.Frag} {mg : Str → Option Value} {H : Hp} {Ex : List (Addr × HO)} {rs ws : Roots} {v : V} {k : Bool} (r : Rel K mg H Ex ((v, .d (.bool k)) :: rs) ws) : v = .bl k := by
  obtain ⟨Hf, as, s, he, ho, nd, hn, hw⟩ := r.ex
  cases ho with
  | cons h t => cases h with | d h => cases h; rfl
def tstM (m : M O) : M Bool := M.bd m asB
theorem tstCore {t : TE} (h2 : ∀ (σ : St) (H : Hp) (Q : VK) (g : Gs) (T : Roots) (Ex : List (Addr × HO)) (ws : Roots), At X H Ex σ g T ws →
    Wp (m g) (fun o g' => ∀ v H', (pu = true → g' = g ∧ Same H H') → At X H' Ex σ g' ((v, o) :: T) (Vs pu ws) → Q v H')
      (fun x g' => ∀ H' cls d, At X H' Ex σ g' T [] → ExAt X.mg Ex cls d H' x → W cls d σ H') → t σ H Q) :
    ∀ (σ : St) (H : Hp) (Q : Bool → Hp → Prop) (g : Gs) (T : Roots) (Ex : List (Addr × HO)) (ws : Roots), At X H Ex σ g T ws →
    Wp (tstM m g) (fun b g' => ∀ H', (pu = true → g' = g ∧ Same H H') → At X H' Ex σ g' T (Vs pu ws) → Q b H')
      (fun x g' => ∀ H' cls d, At X H' Ex σ g' T [] → ExAt X.mg Ex cls d H' x → W cls d σ H') → t σ H fun x H1 => ∃ k, x = .bl k ∧ Q k H1 := fun σ H Q g T Ex ws a w => by
  refine h2 σ H _ g T Ex ws a (w.bd.imp (fun o g' k v H' s a' => ?_) fun _ _ k => k)
  obtain ⟨b, e, k⟩ := wpB k
  subst e
  exact ⟨b, a'.top.isB, k H' s a'.drop⟩
theorem et_cmp {op : CmpOp} {r : R2} {f : List O → Option O} {ms : M (List O)} {pos : Pos} (ho : OpR X (compareOp op) r) (pr : PR X (r2L r) f) (h : EvAs X W pu [a, b] ms) (hm : behindInMarks op b = false) : EvT X W pu (.Compare a [op] [b] pos) (tstM (opM f ms)) := by
  obtain ⟨ts, g1, g2⟩ := h.ex
  cases g1 with
  | cons p1 _ g1 =>
    cases g1 with
    | cons p2 _ g1 =>
      cases g1
      exact ⟨_, pt_cmpR ho p1 p2 hm, tstCore (opCore pr g2)⟩
/-- an expression that gives a truth, as a test -/
theorem et_val (h : Ev X W pu e m) (he : ∀ whole, isTrue e X.env whole = (do let v ← whole; standAt e.pos; holding [v] (truthy v)) := by intro _; rfl) : EvT X W pu e (tstM m) := by
  obtain ⟨t, h1, h2⟩ := h.ex
  exact ⟨_, pt_val h1 he, tstCore h2⟩
def notZ (m : M Bool) : M Bool := M.bd m fun b => M.ret (!b)
theorem et_not {m : M Bool} {pos : Pos} (h : EvT X W pu a m) : EvT X W pu (.UnaryOp .Not a pos) (notZ m) := by
  obtain ⟨t, h1, h2⟩ := h.ex
  exact ⟨_, pt_not h1, fun σ H Q g T Ex ws a w => h2 σ H _ g T Ex ws a (w.bd.imp (fun b g' k H' s a' => k H' s a') fun _ _ k => k)⟩
def andZ (m n : M Bool) : M Bool := M.bd m fun b => if b = true then n else M.ret false
def orZ (m n : M Bool) : M Bool := M.bd m fun b => if b = true then M.ret true else n
section
variable {rest : List Expr} {m n : M Bool} {pos : Pos}
theorem ew_or1 (h : EvT X W pu a m) : EvW X W pu (.BoolOp .Or [a] pos) m := by
  obtain ⟨t, h1, h2⟩ := h.ex
  exact ⟨_, pw_or1 h1, h2⟩
theorem ew_or (h : EvT X W pu a m) (hb : EvW X W pv (.BoolOp .Or (b :: rest) pos) n) : EvW X W (pu && pv) (.BoolOp .Or (a :: b :: rest) pos) (orZ m n) := by
  obtain ⟨t, h1, h2⟩ := h.ex
  obtain ⟨u, g1, g2⟩ := hb.ex
  refine ⟨_, pw_or h1 g1, fun σ H Q g T Ex ws a w => ?_⟩
  refine h2 σ H _ g T Ex ws a (w.bd.imp (fun c g' k H' s a' => ?_) fun _ _ k => k)
  cases c with
  | false =>
    refine iteF (g2 σ H' Q g' T Ex _ a' (k.imp (fun c g2 k H2 s2 a2 => k H2 (fun z => ?_) (by rw [vsVs] at a2; exact a2)) fun _ _ k => k))
    have z' := Bool.and_eq_true_iff.mp z
    obtain ⟨e1, e2⟩ := s z'.1
    obtain ⟨e3, e4⟩ := s2 z'.2
    exact ⟨e3.trans e1, e2.trans e4⟩
  | true =>
    refine iteT (k H' (fun z => s (Bool.and_eq_true_iff.mp z).1) (a'.views fun p m => ?_))
    cases pu <;> cases pv <;> first | exact m | cases m
end
end
end Z
namespace Z
open PySem PySem.Spec L2
section
variable {X : Cx} {H H' : Hp} {Ex : List (Addr × HO)} {σ : St} {g : Gs} {T T' ws ws' : Roots} {W : WX} {pu pv : Bool} {e a b : Expr} {es : List Expr} {m ma mb : M O} {pos : Pos}
/-- plain data is read -/
def rdM (i : Nat) : M O := fun g => match g[i]? with
  | some (some (.d x)) => .ok (.d x) g
  | _ => .bad
/-- what stands at a name becomes data and is read -/
def fzM (i : Nat) : M O := fun g => match g[i]? with
  | some (some (.d x)) => .ok (.d x) g
  | some (some o) => match o.fz with
    | some x => .ok (.d x) (g.set i (some (.d x)))
    | none => .bad
  | _ => .bad
def pkM (i : Nat) : M O := fun g => match g[i]? with
  | some (some o) => .ok o g
  | _ => .bad
/-- what stands at a name is handed away -/
def mvM (i : Nat) : M O := fun g => match g[i]? with
  | some (some o) => .ok o (g.set i none)
  | _ => .bad
theorem At.get {i : Nat} {o : O} {v : V} (a : At X H Ex σ g T ws) (hg : g[i]? = some (some o)) (hv : σ[i]? = some (some v)) : Rel X.K X.mg H Ex ((v, o) :: (roots σ (g.set i none) ++ T)) ws :=
  a.rel.perm ((rootsGet hv hg).append_right T)
theorem stGet {i : Nat} {v : V} (hv : σ[i]? = some (some v)) : σ.set i (some v) = σ := by
  apply List.ext_getElem?
  intro j
  by_cases e : i = j
  · subst e
    rw [List.getElem?_set_self (List.getElem?_eq_some_iff.mp hv).1, hv]
  · rw [List.getElem?_set_ne e]
theorem rootsPut {i : Nat} {o : O} {v : V} (f : Fit σ g) (hv : σ[i]? = some (some v)) : (roots σ (g.set i (some o))).Perm ((v, o) :: roots σ (g.set i none)) := by
  have hi := (List.getElem?_eq_some_iff.mp hv).1
  have := rootsSet (σ := σ) (g := g) (i := i) (v := v) (o := o) hi (f.len ▸ hi)
  rwa [stGet hv] at this
/-- the root of a slot is put back -/
theorem At.put {i : Nat} {o : O} {v : V} (f : Fit σ g) (hv : σ[i]? = some (some v)) (r : Rel X.K X.mg H Ex ((v, o) :: (roots σ (g.set i none) ++ T)) ws) : At X H Ex σ (g.set i (some o)) T ws := by
  refine ⟨⟨by rw [List.length_set]; exact f.len, fun j o' h => ?_⟩, r.perm ((rootsPut f hv).symm.append_right T)⟩
  by_cases e : i = j
  · subst e; exact ⟨v, hv⟩
  · rw [List.getElem?_set_ne e] at h; exact f.at_ j o' h
theorem At.rd {i : Nat} {x : PyData} {v : V} (a : At X H Ex σ g T ws) (hg : g[i]? = some (some (.d x))) (hv : σ[i]? = some (some v)) : At X H Ex σ g ((v, .d x) :: T) ws := by
  have r := (a.get hg hv).dup
  refine .ofTop a.fit (r.perm (.cons _ ?_))
  have p := (rootsGet hv hg).append_right T
  exact p.symm
theorem At.pk {i : Nat} {o : O} {v : V} (a : At X H Ex σ g T ws) (hg : g[i]? = some (some o)) (hv : σ[i]? = some (some v)) : At X H Ex σ g T ((v, o) :: ws) := by
  have r := (a.get hg hv).see
  exact ⟨a.fit, r.perm ((rootsGet hv hg).append_right T).symm⟩
theorem At.fzAt {i : Nat} {o : O} {x : PyData} {v : V} (a : At X H Ex σ g T ws) (hg : g[i]? = some (some o)) (hv : σ[i]? = some (some v)) (hf : o.fz = some x) : At X H Ex σ (g.set i (some (.d x))) T ws :=
  .put a.fit hv ((a.get hg hv).fz hf)
theorem ev_fz (i : Nat) {x : Str} (hN : X.N[i]? = some x := by rfl) (hv : Vis X.env.scope x := by first | exact Or.inl rfl | exact Or.inr (Or.inl rfl) | exact Or.inr (Or.inr rfl)) (hd : (x == ("__debug__" : Str)) = false := by decide)
    (hcd : (x == ("__classdict__" : Str)) = false := by decide) : Ev X W false (.Name x pos) (fzM i) := by
  refine ⟨_, pv i hN hv hd hcd, fun σ H Q g T Ex ws a w => ?_⟩
  unfold fzM at w
  split at w
  · rename_i y hg
    obtain ⟨v, hv⟩ := a.fit.at_ _ _ hg
    exact ⟨v, hv, w v H (fun z => by cases z) ((a.rd hg hv).views vsSub)⟩
  · rename_i o _ hg
    split at w
    · rename_i y hf
      obtain ⟨v, hv⟩ := a.fit.at_ _ _ hg
      have hi := (List.getElem?_eq_some_iff.mp hg).1
      exact ⟨v, hv, w v H (fun z => by cases z) (((a.fzAt hg hv hf).rd (List.getElem?_set_self hi) hv).views vsSub)⟩
    · exact w.elim
  · exact w.elim
theorem ep_pk (i : Nat) {x : Str} (hN : X.N[i]? = some x := by rfl) (hv : Vis X.env.scope x := by first | exact Or.inl rfl | exact Or.inr (Or.inl rfl) | exact Or.inr (Or.inr rfl)) (hd : (x == ("__debug__" : Str)) = false := by decide)
    (hcd : (x == ("__classdict__" : Str)) = false := by decide) : EvP X W true (.Name x pos) (pkM i) := by
  refine ⟨_, pv i hN hv hd hcd, fun σ H Q g T Ex ws a w => ?_⟩
  unfold pkM at w
  split at w
  · rename_i y hg
    obtain ⟨v, hv⟩ := a.fit.at_ _ _ hg
    exact ⟨v, hv, w v H (fun _ => ⟨rfl, Same.refl _⟩) (a.pk hg hv)⟩
  · exact w.elim
theorem ev_mv (i : Nat) {x : Str} (hN : X.N[i]? = some x := by rfl) (hv : Vis X.env.scope x := by first | exact Or.inl rfl | exact Or.inr (Or.inl rfl) | exact Or.inr (Or.inr rfl)) (hd : (x == ("__debug__" : Str)) = false := by decide)
    (hcd : (x == ("__classdict__" : Str)) = false := by decide) : Ev X W false (.Name x pos) (mvM i) := by
  refine ⟨_, pv i hN hv hd hcd, fun σ H Q g T Ex ws a w => ?_⟩
  unfold mvM at w
  split at w
  · rename_i y hg
    obtain ⟨v, hv⟩ := a.fit.at_ _ _ hg
    exact ⟨v, hv, w v H (fun z => by cases z) (.ofTop (a.fit.clr i) ((a.get hg hv).views vsSub))⟩
  · exact w.elim
/-- what is only looked at, when it is data, is had -/
def vwM (m : M O) : M O := M.bd m fun o g => match o with
  | .d x => .ok (.d x) g
  | _ => .bad
def dM (x : PyData) : M O := M.ret (.d x)
theorem ev_int {i : Int} {j : Nat} : Ev X W true (.Constant (.int i) j pos) (dM (.int i)) := ⟨_, pe_int, fun σ H Q g T Ex ws a w => w _ H (fun _ => ⟨rfl, Same.refl _⟩) (a.data fun _ => .int i)⟩
theorem ev_bl {i : Bool} {j : Nat} : Ev X W true (.Constant (.bool i) j pos) (dM (.bool i)) := ⟨_, pe_bl, fun σ H Q g T Ex ws a w => w _ H (fun _ => ⟨rfl, Same.refl _⟩) (a.data fun _ => .bl i)⟩
theorem ev_non {j : Nat} : Ev X W true (.Constant .none j pos) (dM .none) := ⟨_, pe_non, fun σ H Q g T Ex ws a w => w _ H (fun _ => ⟨rfl, Same.refl _⟩) (a.data fun _ => .non)⟩
theorem ev_str {x : Str} {j : Nat} : Ev X W true (.Constant (.str x) j pos) (dM (.str x)) := ⟨_, pe_str, fun σ H Q g T Ex ws a w => w _ H (fun _ => ⟨rfl, Same.refl _⟩) (a.data fun _ => .str x)⟩
structure EvEs (X : Cx) (W : WX) (pu : Bool) (es : List Expr) (m : M (List O)) : Prop where
  ex : ∃ ts, PEs X es ts ∧ ∀ (σ : St) (H : Hp) (Q : List V → Hp → Prop) (g : Gs) (T : Roots) (Ex : List (Addr × HO)) (ws : Roots), At X H Ex σ g T ws →
    Wp (m g) (fun os g' => ∀ vs H', vs.length = os.length → (pu = true → g' = g ∧ Same H H') → At X H' Ex σ g' (vs.zip os ++ T) (Vs pu ws) → Q vs H')
      (fun x g' => ∀ H' cls d, At X H' Ex σ g' T [] → ExAt X.mg Ex cls d H' x → W cls d σ H') → tAll ts σ H Q
theorem ees_nil : EvEs X W true [] (M.ret []) := ⟨[], .nil, fun σ H Q g T Ex ws a w => w [] H rfl (fun _ => ⟨rfl, Same.refl _⟩) a⟩
theorem permIn {p : V × O} {l T : Roots} : (l ++ p :: T).Perm ((p :: l) ++ T) := List.perm_middle
theorem ees_cons {ms : M (List O)} (h : Ev X W pu e m) (hs : EvEs X W pv es ms) (st : starEach (e :: es) X.env = (false, eval e X.env) :: starEach es X.env := by rfl) : EvEs X W (pu && pv) (e :: es) (consM m ms) := by
  obtain ⟨t, h1, h2⟩ := h.ex
  obtain ⟨ts, g1, g2⟩ := hs.ex
  refine ⟨t :: ts, .cons h1 st g1, fun σ H Q g T Ex ws a w => ?_⟩
  refine h2 σ H _ g T Ex ws a (w.bd.imp (fun o g' k v H' s a' => ?_) fun _ _ k => k)
  refine g2 σ H' _ g' _ Ex _ a' (k.bd.imp (fun os g2 k vs H2 hl s2 a2 => ?_) fun x g2 k H2 cls d a2 => k H2 cls d a2.drop)
  refine k (v :: vs) H2 (by simp [hl]) (fun z => ?_) ((a2.perm permIn).views fun p m => by rw [vsVs]; exact m)
  have z' := Bool.and_eq_true_iff.mp z
  obtain ⟨e1, e2⟩ := s z'.1
  obtain ⟨e3, e4⟩ := s2 z'.2
  exact ⟨e3.trans e1, e2.trans e4⟩
def allD : List O → Option (List PyData)
  | [] => some []
  | .d x :: r => match allD r with | some y => some (x :: y) | none => none
  | _ :: _ => none
theorem allD_map : ∀ ds : List PyData, allD (ds.map O.d) = some ds
  | [] => rfl
  | x :: r => by simp [allD, allD_map r]
def mkTup (os : List O) : O := match allD os with
  | some ds => .d (.tuple ds)
  | none => .tup os
def lenOk (n : Nat) : Bool := decide (n ≤ 16777216)
theorem lenOk_le {n : Nat} (h : lenOk n = true) : n ≤ sizeLine := by
  have := of_decide_eq_true h
  rw [sizeLine_eq]
  exact this
def gdM {α : Type} (c : Bool) (m : M α) : M α := fun g => if c = true then m g else .bad
theorem wpGd {α : Type} {c : Bool} {m : M α} {A : α → Gs → Prop} {B : Exn → Gs → Prop} (h : Wp (gdM c m g) A B) : c = true ∧ Wp (m g) A B := by
  unfold gdM at h
  split at h
  · exact ⟨by assumption, h⟩
  · exact h.elim
def tupM (ms : M (List O)) : M O := M.bd ms fun os => gdM (lenOk os.length) (M.ret (mkTup os))
def lstM (ms : M (List O)) : M O := M.bd ms fun os => gdM (lenOk os.length) (M.ret (.lst os))
/-- a new tuple: as it is, or with its raw object known -/
def TupP (H : Hp) (vs : List V) (Q : VK) : Prop := (∀ p, H p = none → Q (.ref p) (upd H p (.tup vs))) ∨ ∀ (p : Addr) (o : Obj), o.dict = none → H p = none → Q (.ref p) (upd H p (.frz o (.tup vs)))
theorem owAllD0 {K : PySem.W.Frag} {mg : Str → Option Value} {H : Hp} {Hf : Fz} : ∀ {vs : List V} {os : List O} {as : List Addr} {ds : List PyData}, OwL K mg Hf H vs os as → allD os = some ds → DpAll K Hf.h vs ds
  | _, _, _, ds, .nil, h => by simp only [allD, Option.some.injEq] at h; subst h; exact .nil
  | _, _, _, ds, .cons (o := o) (os := os) h t, e => by
    cases h with
    | d h =>
      simp only [allD] at e
      cases q : allD os with
      | none => rw [q] at e; cases e
      | some y => rw [q] at e; cases e; exact .cons h (owAllD0 t q)
    | _ => simp [allD] at e
theorem Rel.newTup {K : PySem.W.Frag} {mg : Str → Option Value} {rs : Roots} {vs : List V} {os : List O} {Q : VK} (r : Rel K mg H Ex (vs.zip os ++ rs) ws) (hl : vs.length = os.length) (k5 : ∀ v H', Same H H' → Rel K mg H' Ex ((v, mkTup os) :: rs) ws → Q v H') : TupP H vs Q := by
  have dat : ∀ {Hf : Fz} {as : List Addr} {ds : List PyData}, allD os = some ds → OwL K mg Hf H ((vs.zip os ++ rs).map (·.1)) ((vs.zip os ++ rs).map (·.2)) as → DpAll K Hf.h vs ds := fun q h => by
    obtain ⟨z1, z2⟩ := zipMap hl
    rw [List.map_append, List.map_append, z1, z2] at h
    obtain ⟨a1, a2, _, h1, _⟩ := owLSplit hl h
    exact owAllD0 h1 q
  cases q : allD os with
  | none =>
    refine .inl fun p hp => ?_
    have hnf : ∃ b, V.ref b ∈ vs := by
      obtain ⟨Hf, as, s, he, ho, nd, hn, hw⟩ := r.ex
      obtain ⟨z1, z2⟩ := zipMap hl
      rw [List.map_append, List.map_append, z1, z2] at ho
      obtain ⟨a1, a2, _, h1, _⟩ := owLSplit hl ho
      refine owLRef h1 ?_
      refine Classical.byContradiction fun hc => ?_
      have all : ∀ o ∈ os, ∃ x, o = .d x := fun o m => Classical.byContradiction fun hx => hc ⟨o, m, fun x e => hx ⟨x, e⟩⟩
      have : ∀ os : List O, (∀ o ∈ os, ∃ x, o = .d x) → ∃ ds, allD os = some ds := by
        intro os
        induction os with
        | nil => exact fun _ => ⟨[], rfl⟩
        | cons o r ih =>
          intro h
          obtain ⟨x, rfl⟩ := h o (by simp)
          obtain ⟨ds, e⟩ := ih fun o m => h o (by simp [m])
          exact ⟨x :: ds, by rw [allD, e]⟩
      obtain ⟨ds, e⟩ := this os all
      rw [q] at e
      cases e
    have r1 := (r.new (.tup vs) hp (fun xs e => by cases e; exact hnf)).shut (.tup (os := os)) hl
    refine k5 _ _ (sameNew hp _) ?_
    have e : mkTup os = .tup os := by unfold mkTup; rw [q]
    rw [e]
    exact r1
  | some ds =>
    have e : mkTup os = .d (.tuple ds) := by unfold mkTup; rw [q]
    cases qi : idxS ds with
    | false =>
      refine .inl fun p hp => k5 _ _ (sameNew hp _) ?_
      rw [e]
      have r2 := r.newD (p := p) (vs := vs) hp qi fun Hf as h => dat q h
      exact (r2.perm (List.perm_middle (l₁ := vs.zip os)).symm).dropL
    | true =>
      refine .inr fun p o ho hp => k5 _ _ (sameNew hp _) ?_
      have r1 := r.new (.frz o (.tup vs)) hp
      rw [e]
      have r2 := r1.shutF (ds := ds) ho qi fun Hf as h => by
        obtain ⟨z1, z2⟩ := zipMap hl
        rw [List.map_append, List.map_append, z1, z2] at h
        obtain ⟨a1, a2, _, h1, _⟩ := owLSplit hl h
        exact owAllD0 h1 q
      exact (r2.perm (List.perm_middle (l₁ := vs.zip os)).symm).dropL
theorem Rel.newLst {K : PySem.W.Frag} {mg : Str → Option Value} {rs : Roots} {vs : List V} {os : List O} {p : Addr} (r : Rel K mg H Ex (vs.zip os ++ rs) ws) (hl : vs.length = os.length) (hp : H p = none) : Rel K mg (upd H p (.lst vs)) Ex ((.ref p, .lst os) :: rs) ws :=
  (r.new (.lst vs) hp).shut (.lst (os := os)) hl
theorem At.tops {l : Roots} (a : At X H Ex σ g (l ++ T) ws) : Rel X.K X.mg H Ex (l ++ (roots σ g ++ T)) ws := a.rel.perm (by
  rw [← List.append_assoc, ← List.append_assoc]
  exact List.perm_append_comm.append_right _)
/-- a tuple's object is pushed -/
theorem invTup {pins : List (Addr × Obj)} {s : Shared} {xs : List V} {us : List Value} {Q : VK} {t' : Nat} (I : Inv X pins σ H s) (r : Vals xs us) (z : xs.length ≤ sizeLine) (q : TupP H xs Q) :
    EP X pins σ Q (.ref s.heap.objs.size) { s with heap := s.heap.push { cls := .type "tuple", data := .seq us.toArray }, toks := t' } := by
  have fr := I.hok.fresh (Nat.le_refl _)
  have gp := Heap.get?_push_size s.heap (o := { cls := .type "tuple", data := .seq us.toArray }) rfl
  rcases q with q | q
  · exact ⟨.ref _, _, I.laid (t' := t') (fun b u e => Heap.get?_push_of_some _ e) (Nat.le_refl _) (o := .tup xs) ⟨z, us, r, ⟨_, gp, rfl, _, rfl⟩⟩, rfl, q _ fr⟩
  · exact ⟨.ref _, _, I.laid (t' := t') (fun b u e => Heap.get?_push_of_some _ e) (Nat.le_refl _) (o := .frz { cls := .type "tuple", data := .seq us.toArray } (.tup xs)) ⟨gp, z, us, r, ⟨_, gp, rfl, _, rfl⟩⟩, rfl, q _ _ rfl fr⟩
theorem pe_tupE {t : TA} {x1 : Nat} (h : PA X es t) : PE X (.Tuple es x1 pos) (fun σ H Q => t σ H fun xs H1 => xs.length ≤ sizeLine ∧ TupP H1 xs Q) := by
  refine ⟨fun pins s σ H Q I hq => wpAny_Tuple_spliced (thn (h.run pos pins s σ H _ I hq) fun us s1 m => ?_)⟩
  obtain ⟨xs, H1, I1, r, z, q⟩ := m
  exact ⟨by rw [← r.length]; exact z, invTup (t' := s1.toks) I1 r z q⟩
theorem ev_tup {ms : M (List O)} {x1 : Nat} (h : EvEs X W pu es ms) : Ev X W pu (.Tuple es x1 pos) (tupM ms) := by
  obtain ⟨ts, g1, g2⟩ := h.ex
  refine ⟨_, pe_tupE g1.pa, fun σ H Q g T Ex ws a w => ?_⟩
  refine g2 σ H _ g T Ex ws a (w.bd.imp (fun os g' k vs H' hl s a' => ?_) fun _ _ k => k)
  obtain ⟨k1, k⟩ := wpGd k
  refine ⟨hl ▸ lenOk_le k1, a'.tops.newTup hl fun v H1 s1 r1 => k _ _ (fun z => ?_) (.ofTop a'.fit r1)⟩
  obtain ⟨e1, e2⟩ := s z
  exact ⟨e1, e2.trans s1⟩
theorem ev_lst {ms : M (List O)} (h : EvEs X W pu es ms) : Ev X W pu (.List es pos) (lstM ms) := by
  obtain ⟨ts, g1, g2⟩ := h.ex
  refine ⟨_, pe_lst g1.pa, fun σ H Q g T Ex ws a w => ?_⟩
  refine g2 σ H _ g T Ex ws a (w.bd.imp (fun os g' k vs H' hl s a' => ?_) fun _ _ k => k)
  obtain ⟨k1, k⟩ := wpGd k
  refine ⟨hl ▸ lenOk_le k1, fun p hp => k _ _ (fun z => ?_) (.ofTop a'.fit (a'.tops.newLst hl hp))⟩
  obtain ⟨e1, e2⟩ := s z
  exact ⟨e1, e2.trans (sameNew hp _)⟩
def ifM {α : Type} (c : M Bool) (m n : M α) : M α := M.bd c fun b => if b = true then m else n
theorem purTr {g1 g2 : Gs} {H1 H2 : Hp} (s : pu = true → g1 = g ∧ Same H H1) (s2 : pv = true → g2 = g1 ∧ Same H1 H2) (z : (pu && pv) = true) : g2 = g ∧ Same H H2 := by
  have z' := Bool.and_eq_true_iff.mp z
  obtain ⟨e1, e2⟩ := s z'.1
  obtain ⟨e3, e4⟩ := s2 z'.2
  exact ⟨e3.trans e1, e2.trans e4⟩
def blM (m : M Bool) : M O := M.bd m fun b => M.ret (.d (.bool b))
/-- x and y, of truths -/
def andV (m n : M O) : M O := M.bd (tstM m) fun b => if b = true then n else M.ret (.d (.bool false))
def orV (m n : M O) : M O := M.bd (tstM m) fun b => if b = true then M.ret (.d (.bool true)) else n
section
variable {rest : List Expr} {n : M O}
def notV (m : M O) : M O := M.bd (tstM m) fun b => M.ret (.d (.bool (!b)))
end
/-- a < b < c of data: the middle one had -/
def chM (f f' : List O → Option O) (ma mb mc : M O) : M O := M.bd ma fun x => M.bd mb fun y => M.bd (opM f (M.ret [x, y])) fun z => M.bd (asB z) fun k => if k = true then M.bd mc fun u => opM f' (M.ret [y, u]) else M.ret (.d (.bool false))
end
end Z
namespace Z
open PySem PySem.Spec L2
structure RoomG (k : Nat) (A : Around) : Prop where
  r : Room k A
  gd : A.guards = some []
section
variable {j k : Nat} {A : Around}
theorem RoomG.mono (r : RoomG k A) (h : j ≤ k) : RoomG j A := ⟨r.r.mono h, r.gd⟩
theorem RoomG.units (r : RoomG k A) : A.units + 64 < cLine := r.r.units
theorem RoomG.hd (r : RoomG k A) : A.handled = none := r.r.hd
theorem RoomG.deeper (r : RoomG (k + 1) A) (env : Env) : RoomG k (A.deeper env) := ⟨r.r.deeper env, r.gd⟩
end
/-- a def does as sp tells, called so -/
structure FnG (P : Program) (w : World) (K : PySem.W.Frag) (mg : Str → Option Value) (base : Heap) (CX : CXT) (k : Nat) (f : Addr) (fd : FuncData) (ps : List Str) (sp : Sp) : Prop where
  len : ∀ vs H Q E, sp vs H Q E → vs.length = ps.length
  run : ∀ (A : Around) (o : List Env) (s : Shared) (H : Hp) (args : Args) (us : List Value) (vs : List V) (Q : VK) (E : XK), RoomG k A → Env0 P w K mg base A o s H → BindsTo s fd args (ps.zip us) → Vals vs us → sp vs H Q E → codeAny (model P w) A (.call (.ref f) args) (CR CX o P w H s Q E) s
theorem FnG.imp {P : Program} {w : World} {K : PySem.W.Frag} {mg : Str → Option Value} {base : Heap} {CX : CXT} {k : Nat} {f : Addr} {fd : FuncData} {ps : List Str} {sp sp' : Sp} (F : FnG P w K mg base CX k f fd ps sp) (h : ∀ vs H Q E, sp' vs H Q E → sp vs H Q E) : FnG P w K mg base CX k f fd ps sp' :=
  ⟨fun vs H Q E q => F.len vs H Q E (h _ _ _ _ q), fun A o s H args us vs Q E hr he hb hv hs => F.run A o s H args us vs Q E hr he hb hv (h _ _ _ _ hs)⟩
section
variable {X : Cx} {CX : CXT} {k : Nat} {f C : Addr} {fd : FuncData} {ps : List Str} {sp : Sp} {E : L2.St → XK} {dvs : List V} {ds : List Value} {x m : Str} {p pos apos : Pos} {e o : Expr} {es : List Expr} {ta : TE} {t : TA}
theorem runS {pins : List (Addr × Obj)} {σ : L2.St} {H : Hp} {s : Shared} {Q : VK} {us : List Value} {vs : List V} (F : FnG X.prog X.w X.K X.mg X.base CX k f fd ps sp) (hr : RoomG k X.A) (hb : L2.Binds X.K fd ps ds) (hd : Vals dvs ds) (hx : PassesAt CX X σ (E σ))
    (I : Inv X pins σ H s) (r : Vals vs us) (h : sp (vs ++ dvs) H Q (E σ)) : wpAny (model X.prog X.w) X.A (call (.ref f) us) (EP X pins σ Q) X.xe s := by
  have r2 : Vals (vs ++ dvs) (us ++ ds) := r.append hd
  have hl : (us ++ ds).length = ps.length := by rw [← r2.length]; exact F.len _ _ _ _ h
  refine wpAny_call (codeAny_mono (F.run X.A X.stack s H ⟨us, []⟩ (us ++ ds) (vs ++ dvs) Q (E σ) hr I.env0 (hb s us I.kIn hl) r2 h) fun r s' hq => ?_)
  cases r with
  | error e => exact hx pins H s e s' I hq
  | ok fl =>
    cases fl with
    | ret u => exact I.after hq
    | next => exact False.elim hq
    | brk => exact False.elim hq
    | cont => exact False.elim hq
def tCalS (sp : Sp) (dvs : List V) (E : L2.St → XK) (t : TA) : TE := fun σ H Q => t σ H fun vs H1 => sp (vs ++ dvs) H1 Q (E σ)
theorem pcS (F : FnG X.prog X.w X.K X.mg X.base CX k f fd ps sp) (hr : RoomG k X.A) (hg : Gl X x) (hm : X.mg x = some (.ref f)) (hk : PySem.W.keepIn X.K (.ref f) = true) (hb : L2.Binds X.K fd ps ds) (hd : Vals dvs ds) (hx : ∀ σ, PassesAt CX X σ (E σ))
    (ha : PA X (e :: es) t) (hdb : (x == ("__debug__" : Str)) = false := by decide) (he : starEach (e :: es) X.env = (false, eval e X.env) :: starEach es X.env := by rfl) (hpl : (backTo pos (starEach es X.env)).any (·.1) = false := by rfl) :
    PE X (.Call (.Name x p) (e :: es) [] pos) (tCalS sp dvs E t) := by
  refine ⟨fun pins s σ H Q I h => ?_⟩
  refine wpAny_Call_Name_kw (ld_glob I hg hm ?_ hdb)
  refine PySem.W.callWith_K (h₀ := X.base) I.ok.mod.kin hk (thn (ha.run pos pins s σ H _ I h) fun us s1 ⟨vs, H1, I1, r, q⟩ => ⟨I1.kIn, ?_⟩) he hpl
  exact runS F hr hb hd (hx σ) I1 r q
theorem pcS0 (F : FnG X.prog X.w X.K X.mg X.base CX k f fd ps sp) (hr : RoomG k X.A) (hg : Gl X x) (hm : X.mg x = some (.ref f)) (hk : PySem.W.keepIn X.K (.ref f) = true) (hb : L2.Binds X.K fd ps ds) (hd : Vals dvs ds) (hx : ∀ σ, PassesAt CX X σ (E σ))
    (hdb : (x == ("__debug__" : Str)) = false := by decide) : PE X (.Call (.Name x p) [] [] pos) (tCalS sp dvs E tNil) := by
  refine ⟨fun pins s σ H Q I h => ?_⟩
  refine wpAny_Call_Name_kw (ld_glob I hg hm ?_ hdb)
  exact PySem.W.callWith_K0 I.kIn hk (runS (us := []) F hr hb hd (hx σ) I .nil h)
end
inductive FRes where
  | ok (r : O) (ps : List O)
  | ex (x : Exn)
  | bad
  | all (f : V → FRes)
abbrev Fn := List O → FRes
def FWR (r : FRes) (A : O → List O → Prop) (B : Exn → Prop) : Prop := match r with
  | .ok r ps => A r ps
  | .ex x => B x
  | .bad => False
  | .all f => ∀ v, FWR (f v) A B
def FW (r : FRes) (A : O → List O → Prop) (B : Exn → Prop) : Prop := match r with
  | .ok r ps => A r ps
  | .ex x => B x
  | .bad => False
  | .all f => ∀ v, FWR (f v) A B
theorem fwR_eq {A : O → List O → Prop} {B : Exn → Prop} : ∀ {r : FRes}, FWR r A B = FW r A B
  | .ok _ _ => rfl
  | .ex _ => rfl
  | .bad => rfl
  | .all _ => rfl
theorem fw_all {f : V → FRes} {A : O → List O → Prop} {B : Exn → Prop} : FW (.all f) A B ↔ ∀ v, FW (f v) A B := forall_congr' fun v => by rw [fwR_eq]
def FRes.resR : FRes → (O → List O → Res O) → Gs → Res O
  | .ok r ps, k, _ => k r ps
  | .ex x, _, g => .ex x g
  | .bad, _, _ => .bad
  | .all f, k, g => .all fun v => (f v).resR k g
def FRes.res (r : FRes) (k : O → List O → Res O) (g : Gs) : Res O := match r with
  | .ok r ps => k r ps
  | .ex x => .ex x g
  | .bad => .bad
  | .all f => .all fun v => (f v).resR k g
theorem FRes.resR_eq {k : O → List O → Res O} {g : Gs} : ∀ {r : FRes}, r.resR k g = r.res k g
  | .ok _ _ => rfl
  | .ex _ => rfl
  | .bad => rfl
  | .all _ => rfl
theorem FRes.wp_res {k : O → List O → Res O} {g : Gs} {A : O → Gs → Prop} {B : Exn → Gs → Prop} : ∀ {r : FRes}, Wp (r.res k g) A B ↔ FW r (fun o ps => Wp (k o ps) A B) (fun x => B x g)
  | .ok r ps => Iff.rfl
  | .ex x => Iff.rfl
  | .bad => Iff.rfl
  | .all f => wp_all.trans ((forall_congr' fun v => by rw [FRes.resR_eq]; exact FRes.wp_res (r := f v)).trans fw_all.symm)
theorem FW.imp {A A' : O → List O → Prop} {B B' : Exn → Prop} : ∀ {r : FRes}, FW r A B → (∀ a e, A a e → A' a e) → (∀ x, B x → B' x) → FW r A' B'
  | .ok o ps, h, ha, hb => ha _ _ h
  | .ex x, h, ha, hb => hb _ h
  | .bad, h, ha, hb => h
  | .all f, h, ha, hb => fw_all.mpr fun v => FW.imp (r := f v) (fw_all.mp h v) ha hb
def spF (K : PySem.W.Frag) (mg : Str → Option Value) (np : Nat) (f : Fn) : Sp := fun vs H Q E => vs.length = np ∧ ∃ (os : List O) (Ex : List (Addr × HO)) (T : Roots), os.length = np ∧ Rel K mg H Ex (vs.zip os ++ T) [] ∧
  FW (f os) (fun r ps => ps.length = np ∧ ∀ v H', Rel K mg H' Ex ((v, r) :: (vs.zip ps ++ T)) [] → Q v H') (fun x => ∀ H' cls d, Rel K mg H' Ex T [] → ExAt mg Ex cls d H' x → E cls d H')
/-- a def of the module, called by its name; ds: its last parameters' defaults, by how many are not given -/
structure Callee (P : Program) (w : World) (K : PySem.W.Frag) (mg : Str → Option Value) (base : Heap) (x : Str) (k np : Nat) (dfs : List PyData) (f : Fn) : Prop where
  ex : ∃ (a : Addr) (fd : FuncData) (ps : List Str) (dvs : List V) (ds : List Value), FnG P w K mg base (L2.CX P w) k a fd ps (spF K mg np f) ∧ mg x = some (.ref a) ∧ PySem.W.keepIn K (.ref a) = true ∧ L2.Binds K fd ps ds ∧ Vals dvs ds ∧ ∀ Hf, DpAll K Hf dvs dfs
/-- what a body stands on -/
structure Cc (X : Cx) (W : WX) (k : Nat) : Prop where
  tk : Takes X W
  hr : RoomG k X.A
  calm : X.calm = true
  nd : X.N.Nodup
  own : PySem.PassesOwn (model X.prog X.w) X.A X.env X.xe
inductive Arg where
  | sl (i : Nat)
  | val (o : O)
def valR : List V → List Arg → Roots
  | v :: vs, .val o :: as => (v, o) :: valR vs as
  | _ :: vs, .sl _ :: as => valR vs as
  | _, _ => []
def SlOk (σ : L2.St) : List V → List Arg → Prop
  | v :: vs, .val _ :: as => SlOk σ vs as
  | v :: vs, .sl i :: as => σ[i]? = some (some v) ∧ SlOk σ vs as
  | [], [] => True
  | _, _ => False
def takeA : List Arg → Gs → Option (List O × Gs)
  | [], g => some ([], g)
  | .val o :: r, g => match takeA r g with
    | some (os, g') => some (o :: os, g')
    | none => none
  | .sl i :: r, g => match g[i]? with
    | some (some (.d x)) => match takeA r g with
      | some (os, g') => some (.d x :: os, g')
      | none => none
    | some (some o) => match takeA r (g.set i none) with
      | some (os, g') => some (o :: os, g')
      | none => none
    | _ => none
def giveA : List Arg → List O → Gs → Gs
  | .sl i :: r, o :: os, g => giveA r os (match g[i]? with
    | some none => g.set i (some o)
    | _ => g)
  | .val _ :: r, _ :: os, g => giveA r os g
  | _, _, g => g
section
variable {X : Cx} {W : WX} {pu pv : Bool} {H H' : Hp} {Ex : List (Addr × HO)} {σ : L2.St} {g : Gs} {T T' ws ws' : Roots} {e a b : Expr} {es : List Expr} {m : M O} {pos : Pos}
structure EvU (X : Cx) (W : WX) (es : List Expr) (m : M (List Arg)) : Prop where
  ex : ∃ ts, PEs X es ts ∧ ∀ (σ : L2.St) (H : Hp) (Q : List V → Hp → Prop) (g : Gs) (T : Roots) (Ex : List (Addr × HO)) (ws : Roots), At X H Ex σ g T ws →
    Wp (m g) (fun as g' => ∀ vs H', vs.length = es.length → SlOk σ vs as → At X H' Ex σ g' (valR vs as ++ T) [] → Q vs H')
      (fun x g' => ∀ H' cls d, At X H' Ex σ g' T [] → ExAt X.mg Ex cls d H' x → W cls d σ H') → tAll ts σ H Q
theorem At.noV (a : At X H Ex σ g T ws) : At X H Ex σ g T [] := a.views fun _ h => nomatch h
theorem eu_nil : EvU X W [] (M.ret []) := ⟨[], .nil, fun σ H Q g T Ex ws a w => w [] H rfl trivial a.noV⟩
def valA (m : M O) (ms : M (List Arg)) : M (List Arg) := M.bd m fun o => M.bd ms fun as => M.ret (.val o :: as)
def slA (i : Nat) (ms : M (List Arg)) : M (List Arg) := M.bd ms fun as => M.ret (.sl i :: as)
theorem eu_val {ms : M (List Arg)} (h : Ev X W pu e m) (hs : EvU X W es ms) (st : starEach (e :: es) X.env = (false, eval e X.env) :: starEach es X.env := by rfl) : EvU X W (e :: es) (valA m ms) := by
  obtain ⟨t, h1, h2⟩ := h.ex
  obtain ⟨ts, g1, g2⟩ := hs.ex
  refine ⟨t :: ts, .cons h1 st g1, fun σ H Q g T Ex ws a w => ?_⟩
  refine h2 σ H _ g T Ex ws a (w.bd.imp (fun o g' k v H' s a' => ?_) fun _ _ k => k)
  refine g2 σ H' _ g' _ Ex _ a' (k.bd.imp (fun as g2 k vs H2 hl sl a2 => ?_) fun x g2 k H2 cls d a2 => k H2 cls d a2.drop)
  exact k (v :: vs) H2 (by simp [hl]) sl (a2.perm permIn)
def slIn (i : Nat) (ms : M (List Arg)) : M (List Arg) := fun g => match g[i]? with
  | some (some _) => slA i ms g
  | _ => .bad
theorem eu_sl (i : Nat) {ms : M (List Arg)} {x : Str} (hs : EvU X W es ms) (hN : X.N[i]? = some x := by rfl) (hv : Vis X.env.scope x := by first | exact Or.inl rfl | exact Or.inr (Or.inl rfl) | exact Or.inr (Or.inr rfl)) (hd : (x == ("__debug__" : Str)) = false := by decide)
    (hcd : (x == ("__classdict__" : Str)) = false := by decide) (st : starEach (.Name x pos :: es) X.env = (false, eval (.Name x pos) X.env) :: starEach es X.env := by rfl) : EvU X W (.Name x pos :: es) (slIn i ms) := by
  obtain ⟨ts, g1, g2⟩ := hs.ex
  refine ⟨_ :: ts, .cons (pv i hN hv hd hcd) st g1, fun σ H Q g T Ex ws a w => ?_⟩
  unfold slIn at w
  split at w
  · rename_i o hg
    obtain ⟨v, hv⟩ := a.fit.at_ _ _ hg
    refine ⟨v, hv, ?_⟩
    exact g2 σ H _ g _ Ex _ a (w.bd.imp (fun as g2 k vs H2 hl sl a2 => k (v :: vs) H2 (by simp [hl]) ⟨hv, sl⟩ a2) fun x g2 k H2 cls d a2 => k H2 cls d a2)
  · exact w.elim
theorem takeRel {as : List Arg} : ∀ {vs : List V} {g g' : Gs} {os : List O}, SlOk σ vs as → Fit σ g → Rel X.K X.mg H Ex (roots σ g ++ (valR vs as ++ T)) [] → takeA as g = some (os, g') →
    vs.length = os.length ∧ Fit σ g' ∧ Rel X.K X.mg H Ex (roots σ g' ++ (vs.zip os ++ T)) [] := by
  induction as generalizing T with
  | nil =>
    intro vs g g' os sl f r h
    cases vs with
    | nil =>
      simp only [takeA, Option.some.injEq, Prod.mk.injEq] at h
      obtain ⟨rfl, rfl⟩ := h
      exact ⟨rfl, f, r⟩
    | cons v vs => exact sl.elim
  | cons c r ih =>
    intro vs g g' os sl f rl h
    cases vs with
    | nil => cases c <;> exact sl.elim
    | cons v vs =>
      cases c with
      | val o =>
        simp only [takeA] at h
        cases q : takeA r g with
        | none => rw [q] at h; cases h
        | some p =>
          obtain ⟨os1, g1⟩ := p
          rw [q] at h
          cases h
          have rl' : Rel X.K X.mg H Ex (roots σ g ++ (valR vs r ++ ((v, o) :: T))) [] := rl.perm ((permIn (p := (v, o)) (l := valR vs r) (T := T)).symm.append_left _)
          obtain ⟨h1, h2, h3⟩ := ih (T := (v, o) :: T) (vs := vs) sl f rl' q
          exact ⟨by simp [h1], h2, h3.perm (permIn.append_left _)⟩
      | sl i =>
        obtain ⟨hv, sl⟩ := sl
        simp only [takeA] at h
        split at h
        · rename_i x hg
          cases q : takeA r g with
          | none => rw [q] at h; cases h
          | some p =>
            obtain ⟨os1, g1⟩ := p
            rw [q] at h
            cases h
            have a : At X H Ex σ g (valR vs r ++ T) [] := ⟨f, rl⟩
            have rl' : Rel X.K X.mg H Ex (roots σ g ++ (valR vs r ++ ((v, .d x) :: T))) [] := (a.rd hg hv).rel.perm (List.perm_middle.symm.append_left _)
            obtain ⟨h1, h2, h3⟩ := ih (T := (v, .d x) :: T) (vs := vs) sl f rl' q
            exact ⟨by simp [h1], h2, h3.perm (permIn.append_left _)⟩
        · rename_i o hno hg
          cases q : takeA r (g.set i none) with
          | none => rw [q] at h; cases h
          | some p =>
            obtain ⟨os1, g1⟩ := p
            rw [q] at h
            cases h
            have a : At X H Ex σ g (valR vs r ++ T) [] := ⟨f, rl⟩
            have r2 := a.get hg hv
            have rl' : Rel X.K X.mg H Ex (roots σ (g.set i none) ++ (valR vs r ++ ((v, o) :: T))) [] := by
              refine r2.perm ?_
              exact (List.perm_middle (l₁ := roots σ (g.set i none)) (a := (v, o)) (l₂ := valR vs r ++ T)).symm.trans (List.perm_middle.symm.append_left _)
            obtain ⟨h1, h2, h3⟩ := ih (T := (v, o) :: T) (vs := vs) sl (f.clr i) rl' q
            exact ⟨by simp [h1], h2, h3.perm (permIn.append_left _)⟩
        · cases h
theorem giveRel {as : List Arg} : ∀ {vs : List V} {g : Gs} {os : List O}, SlOk σ vs as → vs.length = os.length → Fit σ g → Rel X.K X.mg H Ex (roots σ g ++ (vs.zip os ++ T)) [] → At X H Ex σ (giveA as os g) T [] := by
  induction as generalizing T with
  | nil =>
    intro vs g os sl hl f r
    cases vs with
    | nil => exact ⟨f, r⟩
    | cons v vs => exact sl.elim
  | cons c r ih =>
    intro vs g os sl hl f rl
    cases vs with
    | nil => cases c <;> exact sl.elim
    | cons v vs =>
      cases os with
      | nil => simp at hl
      | cons o os =>
        have hl' : vs.length = os.length := by simpa using hl
        have rl1 : Rel X.K X.mg H Ex ((v, o) :: (roots σ g ++ (vs.zip os ++ T))) [] := rl.perm List.perm_middle
        cases c with
        | val o' => exact ih (vs := vs) sl hl' f rl1.drop
        | sl i =>
          obtain ⟨hv, sl⟩ := sl
          simp only [giveA]
          split
          · rename_i hg
            have e : g.set i none = g := setNone (by intro o; rw [hg]; simp)
            have a : At X H Ex σ (g.set i (some o)) (vs.zip os ++ T) [] := .put f hv (by rw [e]; exact rl1)
            exact ih (vs := vs) sl hl' a.fit a.rel
          · exact ih (vs := vs) sl hl' f rl1.drop
/-- a call: owned values of names are lent and come back as they are left -/
def callM (f : Fn) (dfs : List PyData) (ms : M (List Arg)) : M O := M.bd ms fun as g => match takeA as g with
  | some (os, g') => (f (os ++ dfs.map O.d)).res (fun r ps => if ps.length = (os ++ dfs.map O.d).length then .ok r (giveA as (ps.take os.length) g') else .bad) g'
  | none => .bad
theorem relDfs {K : PySem.W.Frag} {mg : Str → Option Value} {rs : Roots} : ∀ {dvs : List V} {dfs : List PyData}, (∀ Hf, DpAll K Hf dvs dfs) → Rel K mg H Ex rs ws → Rel K mg H Ex (dvs.zip (dfs.map O.d) ++ rs) ws ∧ dvs.length = dfs.length
  | [], [], _, r => ⟨r, rfl⟩
  | [], _ :: _, h, _ => by cases h (fun _ => none)
  | _ :: _, [], h, _ => by cases h (fun _ => none)
  | v :: dvs, x :: dfs, h, r => by
    have h1 : ∀ Hf, Dp K Hf v x := fun Hf => by cases h Hf with | cons a b => exact a
    have h2 : ∀ Hf, DpAll K Hf dvs dfs := fun Hf => by cases h Hf with | cons a b => exact b
    obtain ⟨q, l⟩ := relDfs h2 r
    exact ⟨q.data h1, by simp [l]⟩
theorem callCore {f : Fn} {dfs : List PyData} {dvs : List V} {as : List Arg} {vs : List V} {np : Nat} {Q : VK} (hd : ∀ Hf, DpAll X.K Hf dvs dfs) (sl : SlOk σ vs as) (a : At X H Ex σ g (valR vs as ++ T) []) (hn : (vs ++ dvs).length = np)
    (w : Wp ((fun g => match takeA as g with
      | some (os, g') => (f (os ++ dfs.map O.d)).res (fun r ps => if ps.length = (os ++ dfs.map O.d).length then .ok r (giveA as (ps.take os.length) g') else .bad) g'
      | none => .bad : M O) g) (fun o g' => ∀ v H', At X H' Ex σ g' ((v, o) :: T) [] → Q v H') (fun x g' => ∀ H' cls d, At X H' Ex σ g' T [] → ExAt X.mg Ex cls d H' x → W cls d σ H')) :
    spF X.K X.mg np f (vs ++ dvs) H Q (WE W σ) := by
  refine ⟨hn, ?_⟩
  simp only at w
  cases q : takeA as g with
  | none => rw [q] at w; exact w.elim
  | some p =>
    obtain ⟨os, g'⟩ := p
    rw [q] at w
    simp only at w
    obtain ⟨h1, h2, h3⟩ := takeRel sl a.fit a.rel q
    obtain ⟨h4, h5⟩ := relDfs hd h3
    have hz : (vs ++ dvs).zip (os ++ dfs.map O.d) = vs.zip os ++ dvs.zip (dfs.map O.d) := List.zip_append h1
    have hlen : (os ++ dfs.map O.d).length = np := by rw [← hn]; simp [h1, h5]
    refine ⟨os ++ dfs.map O.d, Ex, roots σ g' ++ T, hlen, ?_, ?_⟩
    · rw [hz, List.append_assoc]
      exact h4.perm (((List.perm_append_comm_assoc _ _ _).append_left _).trans (List.perm_append_comm_assoc _ _ _))
    · refine (FRes.wp_res.mp w).imp (fun r ps w => ?_) (fun x w => ?_)
      rotate_left
      · intro H' cls d r2 xa
        exact w H' cls d ⟨h2, r2⟩ xa
      · by_cases hps : ps.length = (os ++ dfs.map O.d).length
        · simp only [hps, if_true] at w
          rw [hlen] at hps
          refine ⟨hps, fun v H' r2 => ?_⟩
          have e1 : ps = ps.take os.length ++ ps.drop os.length := (List.take_append_drop _ _).symm
          have hl2 : vs.length = (ps.take os.length).length := by
            rw [List.length_take, hps, ← hlen, h1]
            simp
          have hz2 : (vs ++ dvs).zip ps = vs.zip (ps.take os.length) ++ dvs.zip (ps.drop os.length) := by
            conv => lhs; rw [e1]
            exact List.zip_append hl2
          rw [hz2] at r2
          refine w v H' ?_
          refine giveRel (T := (v, r) :: T) sl hl2 h2 ?_
          have r3 : Rel X.K X.mg H' Ex (dvs.zip (ps.drop os.length) ++ (roots σ g' ++ (vs.zip (ps.take os.length) ++ (v, r) :: T))) [] := by
            refine r2.perm (List.Perm.symm ?_)
            rw [List.append_assoc]
            refine ((List.perm_middle.append_left _).append_left _).trans ?_
            refine (List.perm_middle.append_left _).trans ?_
            refine List.perm_middle.trans (.cons _ ?_)
            exact ((List.perm_append_comm_assoc _ _ _).append_left _).trans (List.perm_append_comm_assoc _ _ _)
          exact r3.dropL
        · simp only [hps, if_false] at w
          exact w.elim
end
end Z
namespace Z
open PySem PySem.Spec L2
section
variable {X : Cx} {W : WX} {pu pv : Bool} {H H' : Hp} {Ex : List (Addr × HO)} {σ σ' : L2.St} {g : Gs} {T T' ws ws' : Roots} {e a b o : Expr} {es : List Expr} {m : M O} {pos p apos : Pos} {k j np : Nat} {x : Str} {dfs : List PyData} {f : Fn} {ms : M (List Arg)}
theorem dpLen {K : PySem.W.Frag} {Hf : Hp} : ∀ {vs : List V} {ds : List PyData}, DpAll K Hf vs ds → vs.length = ds.length
  | _, _, .nil => rfl
  | _, _, .cons _ t => by simp [dpLen t]
theorem Wp.rt {α : Type} {x : α} {A : α → Gs → Prop} {B : Exn → Gs → Prop} (h : Wp (M.ret x g) A B) : A x g := h
theorem ev_call (c : Cc X W k) (cal : Callee X.prog X.w X.K X.mg X.base x j np dfs f) (hj : j ≤ k) (hg : Gl X x) (h : EvU X W (e :: es) ms) (hn : (e :: es).length + dfs.length = np := by rfl)
    (hdb : (x == ("__debug__" : Str)) = false := by decide) (he : starEach (e :: es) X.env = (false, eval e X.env) :: starEach es X.env := by rfl) (hpl : (backTo pos (starEach es X.env)).any (·.1) = false := by rfl) :
    Ev X W false (.Call (.Name x p) (e :: es) [] pos) (callM f dfs ms) := by
  obtain ⟨C, fd, ps, dvs, ds, F, hm, hk, hb, hd, hdd⟩ := cal.ex
  obtain ⟨ts, g1, g2⟩ := h.ex
  refine ⟨_, pcS F (c.hr.mono hj) hg hm hk hb hd (fun σ => passAt c.tk σ) g1.pa hdb he hpl, fun σ H Q g T Ex ws a w => ?_⟩
  refine g2 σ H _ g T Ex ws a (w.bd.imp (fun as g' k vs H' hl sl a' => ?_) fun _ _ k => k)
  refine callCore hdd sl a' (by rw [List.length_append, hl, dpLen (hdd fun _ => none)]; exact hn) (k.imp (fun o g2 k v H2 a2 => k v H2 (fun z => by cases z) a2) fun _ _ k => k)
theorem ev_call0 (c : Cc X W k) (cal : Callee X.prog X.w X.K X.mg X.base x j np dfs f) (hj : j ≤ k) (hg : Gl X x) (hn : dfs.length = np := by rfl)
    (hdb : (x == ("__debug__" : Str)) = false := by decide) : Ev X W false (.Call (.Name x p) [] [] pos) (callM f dfs (M.ret [])) := by
  obtain ⟨C, fd, ps, dvs, ds, F, hm, hk, hb, hd, hdd⟩ := cal.ex
  refine ⟨_, pcS0 F (c.hr.mono hj) hg hm hk hb hd (fun σ => passAt c.tk σ) hdb, fun σ H Q g T Ex ws a w => ?_⟩
  refine callCore (as := []) (vs := []) hdd trivial a.noV (by rw [List.nil_append, dpLen (hdd fun _ => none)]; exact hn) (w.bd.rt.imp (fun o g2 k v H2 a2 => k v H2 (fun z => by cases z) a2) fun _ _ k => k)
inductive Fl where
  | next
  | ret (o : O)
  | brk
  | cnt
def Pin (np : Nat) (σ σ' : L2.St) : Prop := ∀ i, i < np → σ'[i]? = σ[i]?
theorem Pin.refl {σ : L2.St} : Pin np σ σ := fun _ _ => rfl
theorem Pin.trans {σ σ1 σ2 : L2.St} (a : Pin np σ σ1) (b : Pin np σ1 σ2) : Pin np σ σ2 := fun i h => (b i h).trans (a i h)
theorem Pin.set {σ : L2.St} {i : Nat} {v : Option V} (h : np ≤ i) : Pin np σ (σ.set i v) := fun j hj => List.getElem?_set_ne (by omega)
def SPost (X : Cx) (np : Nat) (σ : L2.St) (T : Roots) (Ex : List (Addr × HO)) (D : Ends) : Fl → Gs → Prop
  | .next, g' => ∀ σ' H', Pin np σ σ' → At X H' Ex σ' g' T [] → D.nx σ' H'
  | .ret o, g' => ∀ v σ' H', Pin np σ σ' → At X H' Ex σ' g' ((v, o) :: T) [] → D.rt v H'
  | .brk, g' => ∀ σ' H', Pin np σ σ' → At X H' Ex σ' g' T [] → D.bk σ' H'
  | .cnt, g' => ∀ σ' H', Pin np σ σ' → At X H' Ex σ' g' T [] → D.ct σ' H'
def XPost (X : Cx) (W : WX) (np : Nat) (σ : L2.St) (T : Roots) (Ex : List (Addr × HO)) : Exn → Gs → Prop :=
  fun x g' => ∀ σ' H' cls d, Pin np σ σ' → At X H' Ex σ' g' T [] → ExAt X.mg Ex cls d H' x → W cls d σ' H'
structure EvS (X : Cx) (W : WX) (np : Nat) (st : Stmt) (m : M Fl) : Prop where
  ex : ∃ t, PS X st t ∧ ∀ (σ : L2.St) (H : Hp) (D : Ends) (g : Gs) (T : Roots) (Ex : List (Addr × HO)), At X H Ex σ g T [] → Wp (m g) (SPost X np σ T Ex D) (XPost X W np σ T Ex) → t D σ H
structure EvSs (X : Cx) (W : WX) (np : Nat) (st : List Stmt) (m : M Fl) : Prop where
  ex : ∃ t, PSs X st t ∧ ∀ (σ : L2.St) (H : Hp) (D : Ends) (g : Gs) (T : Roots) (Ex : List (Addr × HO)), At X H Ex σ g T [] → Wp (m g) (SPost X np σ T Ex D) (XPost X W np σ T Ex) → t D σ H
theorem SPost.pin {D : Ends} {fl : Fl} {g' : Gs} {σ1 : L2.St} (h : SPost X np σ T Ex D fl g') (p : Pin np σ σ1) : SPost X np σ1 T Ex D fl g' := by
  cases fl with
  | next => exact fun σ' H' q a => h σ' H' (p.trans q) a
  | ret o => exact fun v σ' H' q a => h v σ' H' (p.trans q) a
  | brk => exact fun σ' H' q a => h σ' H' (p.trans q) a
  | cnt => exact fun σ' H' q a => h σ' H' (p.trans q) a
theorem XPost.pin {x : Exn} {g' : Gs} {σ1 : L2.St} (h : XPost X W np σ T Ex x g') (p : Pin np σ σ1) : XPost X W np σ1 T Ex x g' := fun σ' H' cls d q a e => h σ' H' cls d (p.trans q) a e
section
variable {st : Stmt} {rest : List Stmt} {ma mb : M Fl} {mo : M O}
theorem ess_nil : EvSs X W np [] (M.ret .next) := ⟨_, pss_nil, fun σ H D g T Ex a w => w σ H .refl a⟩
def seqM (m n : M Fl) : M Fl := M.bd m fun fl => match fl with
  | .next => n
  | .ret o => M.ret (.ret o)
  | .brk => M.ret .brk
  | .cnt => M.ret .cnt
theorem ess_one (h : EvS X W np st ma) : EvSs X W np [st] ma := by
  obtain ⟨t, h1, h2⟩ := h.ex
  exact ⟨t, pss_one h1, h2⟩
theorem ess_cons (h : EvS X W np st ma) (hs : EvSs X W np rest mb) : EvSs X W np (st :: rest) (seqM ma mb) := by
  obtain ⟨t, h1, h2⟩ := h.ex
  obtain ⟨u, g1, g2⟩ := hs.ex
  refine ⟨_, pss_cons h1 g1, fun σ H D g T Ex a w => h2 σ H _ g T Ex a (w.bd.imp (fun fl g' k => ?_) fun x g' k => k)⟩
  cases fl with
  | next => exact fun σ' H' p a' => g2 σ' H' D g' T Ex a' (k.imp (fun fl g2 k => k.pin p) fun x g2 k => k.pin p)
  | ret o => exact k
  | brk => exact k
  | cnt => exact k
def retM (m : M O) : M Fl := M.bd m fun o => M.ret (.ret o)
theorem es_ret (h : Ev X W pu e mo) : EvS X W np (.Return (some e) pos) (retM mo) := by
  obtain ⟨t, h1, h2⟩ := h.ex
  exact ⟨_, ps_ret h1, fun σ H D g T Ex a w => h2 σ H _ g T Ex [] a (w.bd.imp (fun o g' k v H' s a' => k v σ H' .refl a'.noV) fun x g' k H' cls d a' e => k σ H' cls d .refl a' e)⟩
def dropM (m : M O) : M Fl := M.bd m fun _ => M.ret .next
theorem es_expr (h : Ev X W pu e mo) (hs : swapsWith e none pos.line X.env = pure false := by rfl) : EvS X W np (.Expr e pos) (dropM mo) := by
  obtain ⟨t, h1, h2⟩ := h.ex
  exact ⟨_, ps_expr h1 hs, fun σ H D g T Ex a w => h2 σ H _ g T Ex [] a (w.bd.imp (fun o g' k v H' s a' => k σ H' .refl a'.drop.noV) fun x g' k H' cls d a' e => k σ H' cls d .refl a' e)⟩
theorem es_if {c : Expr} {A B : List Stmt} {mc : M Bool} (hc : EvT X W pu c mc) (ha : EvSs X W np A ma) (hb : EvSs X W np B mb) : EvS X W np (.If c A B pos) (ifM mc ma mb) := by
  obtain ⟨tc, c1, c2⟩ := hc.ex
  obtain ⟨ta, a1, a2⟩ := ha.ex
  obtain ⟨tb, b1, b2⟩ := hb.ex
  refine ⟨_, ps_if c1 a1 b1, fun σ H D g T Ex a w => c2 σ H _ g T Ex [] a (w.bd.imp (fun c g' k H' s a' => ?_) fun x g' k H' cls d a' e => k σ H' cls d .refl a' e)⟩
  cases c with
  | true => exact iteT (a2 σ H' D g' T Ex a'.noV k)
  | false => exact iteF (b2 σ H' D g' T Ex a'.noV k)
structure EvG (X : Cx) (W : WX) (np : Nat) (tg : Expr) (f : O → M Unit) : Prop where
  ex : ∃ t, PG X tg t ∧ ∀ (σ : L2.St) (H : Hp) (Q : L2.St → Hp → Prop) (g : Gs) (T : Roots) (Ex : List (Addr × HO)) (v : V) (o : O), At X H Ex σ g ((v, o) :: T) [] →
    Wp (f o g) (fun _ g' => ∀ σ' H', Pin np σ σ' → At X H' Ex σ' g' T [] → Q σ' H') (XPost X W np σ T Ex) → t v σ H Q
def setM (i : Nat) (o : O) : M Unit := fun g => .ok () (g.set i (some o))
theorem At.store {i : Nat} {v : V} {o : O} (a : At X H Ex σ g ((v, o) :: T) ws) (hi : i < σ.length) : At X H Ex (σ.set i (some v)) (g.set i (some o)) T ws := ⟨a.fit.set i v (some o), a.rel.setAt a.fit hi⟩
theorem At.storeAny {i : Nat} {v : V} {o : O} (a : At X H Ex σ g ((v, o) :: T) ws) : At X H Ex (σ.set i (some v)) (g.set i (some o)) T ws := by
  by_cases hi : i < σ.length
  · exact a.store hi
  · have e1 : σ.set i (some v) = σ := List.set_eq_of_length_le (by omega)
    have e2 : g.set i (some o) = g := List.set_eq_of_length_le (by rw [← a.fit.len]; omega)
    rw [e1, e2]
    exact a.drop
theorem eg_name (i : Nat) {x : Str} (hnp : np ≤ i) (hN : X.N.Nodup) (hi : X.N[i]? = some x) (hx : Loc X.env.scope x) (hf : X.fn x = true ∨ X.env.scope.names.lookup x = some .local := by first | exact .inl rfl | exact .inr rfl | assumption) : EvG X W np (.Name x pos) (setM i) :=
  ⟨_, pg_name hN hi hx hf, fun σ H Q g T Ex v o a w => w _ _ (Pin.set hnp) a.storeAny⟩
def asgM (m : M O) (f : O → M Unit) : M Fl := M.bd m fun o => M.bd (f o) fun _ => M.ret .next
theorem es_set (i : Nat) {x : Str} {pos' : Pos} (hnp : np ≤ i) (hN : X.N.Nodup) (hi : X.N[i]? = some x) (hx : Loc X.env.scope x) (h : Ev X W pu e mo) (hs : swapsWith e (some (.Name x pos')) pos.line X.env = pure false := by rfl) (hf : X.fn x = true ∨ X.env.scope.names.lookup x = some .local := by first | exact .inl rfl | exact .inr rfl | assumption) :
    EvS X W np (.Assign [.Name x pos'] e pos) (asgM mo (setM i)) := by
  obtain ⟨t, h1, h2⟩ := h.ex
  exact ⟨_, ps_set hN hi hx h1 hs hf, fun σ H D g T Ex a w => h2 σ H _ g T Ex [] a (w.bd.imp (fun o g' k v H' s a' => k _ H' (Pin.set hnp) a'.noV.storeAny) fun x g' k H' cls d a' e => k σ H' cls d .refl a' e)⟩
theorem es_asg {tg : Expr} {f : O → M Unit} (h : Ev X W pu e mo) (hg : EvG X W np tg f) (hs : swapsWithSole [tg] e pos.line X.env = pure false := by rfl) (hw : swappedStores [tg] e X.env = pure none := by rfl)
    (h1 : (assignEach [tg] X.env).map (·.2) = [assign tg X.env] := by rfl) : EvS X W np (.Assign [tg] e pos) (asgM mo f) := by
  obtain ⟨t, c1, c2⟩ := h.ex
  obtain ⟨u, d1, d2⟩ := hg.ex
  refine ⟨_, ps_asg c1 d1 hs hw h1, fun σ H D g T Ex a w => c2 σ H _ g T Ex [] a (w.bd.imp (fun o g' k v H' s a' => ?_) fun x g' k H' cls d a' e => k σ H' cls d .refl a' e)⟩
  refine d2 σ H' _ g' T Ex v o a'.noV ?_
  exact k.bd
end
end
end Z
namespace Z
open PySem PySem.Spec L2
section
variable {X : Cx} {W : WX} {pu pv pw : Bool} {H H' : Hp} {Ex : List (Addr × HO)} {σ σ' : L2.St} {g : Gs} {T T' ws ws' : Roots} {e a b o : Expr} {es : List Expr} {m : M O} {pos p apos : Pos} {k j np : Nat} {x : Str}
theorem Rel.isTup {K : PySem.W.Frag} {mg : Str → Option Value} {rs : Roots} {v : V} {ds : List PyData} (r : Rel K mg H Ex ((v, .d (.tuple ds)) :: rs) ws) : ∃ a vs, v = .ref a ∧ SqT K H a vs ∧ vs.length = ds.length ∧ Rel K mg H Ex (vs.zip (ds.map O.d) ++ rs) ws := by
  obtain ⟨Hf, as, s, he, ho, nd, hn, hw⟩ := r.ex
  cases ho with
  | cons h t =>
    cases h with
    | d h =>
      obtain ⟨a, vs, rfl, h1, h2⟩ := dpTup h
      · have hl := dpLen h2
        refine ⟨a, vs, rfl, sameT s.same h1, hl, ⟨Hf, _, s, he, ?_, nd, hn, hw⟩⟩
        have all : ∀ {vs : List V} {ds : List PyData}, DpAll K Hf.h vs ds → OwL K mg Hf H vs (ds.map O.d) [] := by
          intro vs
          induction vs with
          | nil => intro ds h; cases h; exact .nil
          | cons v vs ih => intro ds h; cases h with | cons p q => exact .cons (as := []) (bs := []) (.d p) (ih q)
        obtain ⟨z1, z2⟩ := zipMap (l := vs) (m := ds.map O.d) (by simpa using hl)
        rw [List.map_append, List.map_append, z1, z2]
        exact owLApp (all h2) t
end
end Z
namespace Z
open PySem PySem.Spec L2
/-- a walk over data, ds, while Tk is held -/
structure Wk (K : PySem.W.Frag) (mg : Str → Option Value) (J : It) (Tk : Roots) (ds : List PyData) : Prop where
  go : ∀ (i : Nat) (H : Hp) (Ex : List (Addr × HO)) (rs : Roots), i < ds.length → Rel K mg H Ex (Tk ++ rs) [] → J.go i H
  stop : ∀ (i : Nat) (H : Hp) (Ex : List (Addr × HO)) (rs : Roots), ds.length ≤ i → Rel K mg H Ex (Tk ++ rs) [] → J.stop i H
  yld : ∀ (i : Nat) (H : Hp) (Ex : List (Addr × HO)) (rs : Roots) (x : V) (H' : Hp) (hi : i < ds.length), Rel K mg H Ex (Tk ++ rs) [] → J.yld i H x H' → Same H H' ∧ Rel K mg H' Ex ((x, .d ds[i]) :: (Tk ++ rs)) []
structure EvI (X : Cx) (W : WX) (pu : Bool) (tg iter : Expr) (m : M (List PyData)) : Prop where
  ex : ∃ wi, PI X tg iter wi ∧ ∀ (σ : L2.St) (H : Hp) (R : It → Hp → Prop) (g : Gs) (T : Roots) (Ex : List (Addr × HO)) (ws : Roots), At X H Ex σ g T ws →
    Wp (m g) (fun ds g' => ∀ J H' Tk, Wk X.K X.mg J Tk ds → (pu = true → g' = g ∧ Same H H') → At X H' Ex σ g' (Tk ++ T) (Vs pu ws) → R J H')
      (fun x g' => ∀ H' cls d, At X H' Ex σ g' T [] → ExAt X.mg Ex cls d H' x → W cls d σ H') → wi σ H R
section
variable {X : Cx} {W : WX} {pu pv pw : Bool} {H H' : Hp} {Ex : List (Addr × HO)} {σ σ' : L2.St} {g : Gs} {T T' ws ws' : Roots} {e a b o : Expr} {es : List Expr} {m : M O} {pos p apos : Pos} {k j np : Nat} {x : Str}
theorem At.relT {Tk : Roots} (a : At X H Ex σ g (Tk ++ T) ws) : Rel X.K X.mg H Ex (Tk ++ (roots σ g ++ T)) ws := a.tops
theorem At.dropTs {Tk : Roots} (a : At X H Ex σ g (Tk ++ T) ws) : At X H Ex σ g T ws := ⟨a.fit, (a.tops).dropL⟩
def forM (set : O → M Unit) (body : M Fl) : List PyData → M Fl
  | [] => M.ret .next
  | x :: r => M.bd (set (.d x)) fun _ => M.bd body fun fl => match fl with
    | .next => forM set body r
    | .cnt => forM set body r
    | .brk => M.ret .next
    | .ret o => M.ret (.ret o)
theorem es_for {tg iter : Expr} {body : List Stmt} {mi : M (List PyData)} {set : O → M Unit} {mb : M Fl} (c : Cc X W k) (hi : EvI X W pu tg iter mi) (hg : EvG X W np tg set) (hb : EvSs X W np body mb)
    (hs : ∀ x, foldedSetIterable iter X.env x = pure x := by intro _; rfl) : EvS X W np (.For tg iter body [] pos) (M.bd mi (forM set mb)) := by
  obtain ⟨wi, i1, i2⟩ := hi.ex
  obtain ⟨tg', t1, t2⟩ := hg.ex
  obtain ⟨tb, b1, b2⟩ := hb.ex
  refine ⟨_, ps_for c.own c.calm i1 t1 b1 hs, fun σ H D g T Ex a w => ?_⟩
  refine i2 σ H _ g T Ex [] a (w.bd.imp (fun ds g' kk J H' Tk wk s a' => ?_) fun x g' kk H' cls d a' e => kk σ H' cls d .refl a' e)
  refine ⟨fun i n σ1 H1 => n = ds.length - i ∧ i ≤ ds.length ∧ Pin np σ σ1 ∧ ∃ g1, At X H1 Ex σ1 g1 (Tk ++ T) [] ∧ Wp (forM set mb (ds.drop i) g1) (SPost X np σ T Ex D) (XPost X W np σ T Ex),
    ⟨ds.length, rfl, Nat.zero_le _, .refl, g', a'.noV, kk⟩, ?_⟩
  rintro i n σ1 H1 ⟨rfl, hle, pin, g1, a1, w1⟩
  by_cases hlt : i < ds.length
  · refine .inr ⟨wk.go i H1 Ex _ hlt a1.relT, fun σ2 H2 => ∃ m', m' < ds.length - i ∧ (m' = ds.length - (i + 1) ∧ i + 1 ≤ ds.length ∧ Pin np σ σ2 ∧ ∃ g2, At X H2 Ex σ2 g2 (Tk ++ T) [] ∧ Wp (forM set mb (ds.drop (i + 1)) g2) (SPost X np σ T Ex D) (XPost X W np σ T Ex)), fun _ _ h => h, fun x H2 y => ?_⟩
    obtain ⟨s2, r2⟩ := wk.yld i H1 Ex _ x H2 hlt a1.relT y
    rw [List.drop_eq_getElem_cons hlt] at w1
    refine t2 σ1 H2 _ g1 (Tk ++ T) Ex x _ (.ofTop a1.fit (r2.perm (.cons _ (List.perm_append_comm_assoc _ _ _)))) ((Wp.bd w1).imp (fun _ g2 kk σ2 H3 p2 a2 => ?_) fun x g2 kk σ' H' cls d q a2 e => kk σ' H' cls d (pin.trans q) a2.dropTs e)
    refine b2 σ2 H3 _ g2 (Tk ++ T) Ex a2 ((Wp.bd kk).imp (fun fl g3 kk => ?_) fun x g2 kk σ' H' cls d q a2 e => kk σ' H' cls d ((pin.trans p2).trans q) a2.dropTs e)
    cases fl with
    | next => exact fun σ3 H4 p3 a3 => ⟨_, by omega, rfl, hlt, (pin.trans p2).trans p3, g3, a3, kk⟩
    | cnt => exact fun σ3 H4 p3 a3 => ⟨_, by omega, rfl, hlt, (pin.trans p2).trans p3, g3, a3, kk⟩
    | brk => exact fun σ3 H4 p3 a3 => kk σ3 H4 ((pin.trans p2).trans p3) a3.dropTs
    | ret o => exact fun v σ3 H4 p3 a3 => kk v σ3 H4 ((pin.trans p2).trans p3) (At.ofTop a3.fit (a3.top.perm (.cons _ (List.perm_append_comm_assoc _ _ _)) |>.perm (List.perm_middle (l₁ := Tk)).symm |>.dropL))
  · have e : i = ds.length := by omega
    subst e
    rw [List.drop_length] at w1
    exact .inl ⟨wk.stop _ H1 Ex _ (Nat.le_refl _) a1.relT, w1 σ1 H1 pin a1.dropTs⟩
def signs (z : Str) : List PyData := z.cps.toList.map fun c => .str ⟨#[c]⟩
/-- the items of a value that is walked -/
def itemsM (o : O) : M (List PyData) := fun g => match o with
  | .d (.list ds) => .ok ds g
  | .d (.tuple ds) => .ok ds g
  | .d (.str z) => .ok (signs z) g
  | .gL ds => .ok ds g
  | .gT ds => .ok ds g
  | .lst os => match allD os with
    | some ds => .ok ds g
    | none => .bad
  | _ => .bad
theorem dpGet {K : PySem.W.Frag} {Hf : Hp} : ∀ {vs : List V} {ds : List PyData} {i : Nat} {v : V} (h : DpAll K Hf vs ds) (hv : vs[i]? = some v) (hi : i < ds.length), Dp K Hf v ds[i]
  | _, _, 0, _, .cons a t, hv, hi => by
    simp only [List.getElem?_cons_zero, Option.some.injEq] at hv
    subst hv
    exact a
  | _, _, i + 1, _, .cons a t, hv, hi => by
    simp only [List.getElem?_cons_succ] at hv
    exact dpGet (i := i) t hv (by simpa using hi)
/-- the seat of data that is held: one address, one look at any heap -/
theorem Rel.headDp {K : PySem.W.Frag} {mg : Str → Option Value} {rs : Roots} {v : V} {x : PyData} (r : Rel K mg H Ex ((v, .d x) :: rs) ws) : ∃ Hf, Same Hf H ∧ Dp K Hf v x ∧ ∀ (u : V) (y : PyData), Dp K Hf u y → Rel K mg H Ex ((u, .d y) :: (v, .d x) :: rs) ws := by
  obtain ⟨Hf, as, s, he, ho, nd, hn, hw⟩ := r.ex
  cases ho with
  | cons h t =>
    cases h with
    | d h => exact ⟨Hf.h, s.same, h, fun u y hu => ⟨Hf, _, s, he, .cons (as := []) (.d hu) (.cons (.d h) t), nd, hn, hw⟩⟩
def intsF (lo : Int) (n : Nat) : List PyData := (List.range n).map fun i => .int (lo + (i : Nat))
theorem wkRng {K : PySem.W.Frag} {mg : Str → Option Value} {lo : Int} {n : Nat} {Tk : Roots} : Wk K mg (Itr lo n) Tk (intsF lo n) where
  go := fun i H Ex rs hi r => by simpa [intsF, Itr] using hi
  stop := fun i H Ex rs hi r => by simpa [intsF, Itr] using hi
  yld := fun i H Ex rs x H' hi r y => by
    obtain ⟨e, ex⟩ := y
    subst e; subst ex
    refine ⟨Same.refl _, r.data fun Hf => ?_⟩
    have e : (intsF lo n)[i] = .int (lo + (i : Nat)) := by simp [intsF]
    rw [e]
    exact .int _
def inRng (i : Int) : Bool := decide (-(4611686018427387904) ≤ i) && decide (i < 4611686018427387904)
def rng1M (os : List O) : M (List PyData) := fun g => match os with
  | [.d (.int i)] => if inRng i = true then .ok (intsF 0 i.toNat) g else .bad
  | _ => .bad
def rng2M (os : List O) : M (List PyData) := fun g => match os with
  | [.d (.int i), .d (.int j)] => if inRng i = true ∧ inRng j = true then .ok (intsF i (j - i).toNat) g else .bad
  | _ => .bad
theorem inRng_ok {i : Int} (h : inRng i = true) : -(2 ^ 62) ≤ i ∧ i < 2 ^ 62 := by
  unfold inRng at h
  have := Bool.and_eq_true_iff.mp h
  exact ⟨by have := of_decide_eq_true this.1; omega, by have := of_decide_eq_true this.2; omega⟩
theorem Rel.isI {K : PySem.W.Frag} {mg : Str → Option Value} {rs : Roots} {v : V} {i : Int} (r : Rel K mg H Ex ((v, .d (.int i)) :: rs) ws) : v = .int i := by
  obtain ⟨Hf, s, h, _⟩ := r.headDp
  cases h; rfl
theorem ei_range1 {tg : Expr} {ms : M (List O)} (h : EvEs X W pu [a] ms) (hg : Gl X "range") (hm : X.mg "range" = none) (hs : starEach [a] X.env = [(false, eval a X.env)] := by rfl) : EvI X W pu tg (.Call (.Name "range" p) [a] [] pos) (M.bd ms rng1M) := by
  obtain ⟨ts, g1, g2⟩ := h.ex
  refine ⟨_, pi_range1 hg hm g1.pa hs, fun σ H R g T Ex ws a w => g2 σ H _ g T Ex ws a (w.bd.imp (fun os g' kk vs H' hl s a' => ?_) fun _ _ kk => kk)⟩
  unfold rng1M at kk
  split at kk
  · rename_i i
    split at kk
    · rename_i hi
      match vs, hl with
      | [v], _ =>
        have r : Rel X.K X.mg H' Ex ((v, .d (.int i)) :: (roots σ g' ++ T)) (Vs pu ws) := a'.top
        obtain rfl := r.isI
        obtain ⟨h1, h2⟩ := inRng_ok hi
        exact ⟨i, rfl, h1, h2, kk _ H' [] wkRng s (At.drop (p := (.int i, .d (.int i))) a')⟩
    · exact kk.elim
  · exact kk.elim
end
end Z
namespace Z
open PySem PySem.Spec L2
def wipeG (g : Gs) : List Nat → Gs
  | [] => g
  | v :: vs => (wipeG g vs).set v none
def restG (g1 : Gs) : List Nat → Gs → Gs
  | [], g3 => g3
  | v :: vs, g3 => restG g1 vs (g3.set v (((wipeG g1 vs)[v]?).getD none))
def hidR (σ : L2.St) (g : Gs) : List Nat → Roots
  | [] => []
  | v :: vs => (match (wipe σ vs)[v]?, (wipeG g vs)[v]? with
    | some (some x), some (some o) => [(x, o)]
    | _, _ => []) ++ hidR σ g vs
section
variable {K : PySem.W.Frag} {mg : Str → Option Value} {H : Hp} {Ex : List (Addr × HO)} {T ws : Roots} {σ : L2.St} {g g1 : Gs}
theorem wipeFit (f : Fit σ g) : ∀ vs, Fit (wipe σ vs) (wipeG g vs)
  | [] => f
  | v :: vs => by
    have ih := wipeFit f vs
    refine ⟨by unfold wipe wipeG; rw [List.length_set, List.length_set]; exact ih.len, fun i o h => ?_⟩
    unfold wipe
    unfold wipeG at h
    by_cases e : v = i
    · subst e
      rw [List.getElem?_set] at h
      simp at h
    · rw [List.getElem?_set_ne e] at h
      rw [List.getElem?_set_ne e]
      exact ih.at_ i o h
theorem wipeRoots (f : Fit σ g) : ∀ vs, (roots σ g).Perm (roots (wipe σ vs) (wipeG g vs) ++ hidR σ g vs)
  | [] => by simp [wipe, wipeG, hidR]
  | v :: vs => by
    have ih := wipeRoots f vs
    have fv := wipeFit f vs
    show (roots σ g).Perm (roots ((wipe σ vs).set v none) ((wipeG g vs).set v none) ++ _)
    rw [rootsNone]
    unfold hidR
    cases q : (wipeG g vs)[v]? with
    | none =>
      rw [setNone (by intro o; rw [q]; simp)]
      cases (wipe σ vs)[v]? with
      | none => exact ih
      | some y => cases y <;> exact ih
    | some y =>
      cases y with
      | none =>
        rw [setNone (by intro o; rw [q]; simp)]
        cases (wipe σ vs)[v]? with
        | none => exact ih
        | some y => cases y <;> exact ih
      | some o =>
        obtain ⟨x, hx⟩ := fv.at_ v o q
        rw [hx]
        exact ih.trans (((rootsGet hx q).append_right _).trans List.perm_middle.symm)
/-- back from a block: the hidden slots stand again -/
theorem restRel (f : Fit σ g1) : ∀ (vs : List Nat) {g3 : Gs}, Fit (wipe σ vs) g3 → Rel K mg H Ex (roots (wipe σ vs) g3 ++ (hidR σ g1 vs ++ T)) ws → Fit σ (restG g1 vs g3) ∧ Rel K mg H Ex (roots σ (restG g1 vs g3) ++ T) ws
  | [], g3, f3, r => ⟨f3, r⟩
  | v :: vs, g3, f3, r => by
    unfold restG
    have f3' : Fit ((wipe σ vs).set v none) g3 := f3
    have hlen : (wipe σ vs).length = g3.length := by have := f3'.len; rwa [List.length_set] at this
    have fv := wipeFit f vs
    have e3 : g3.set v none = g3 := setNone (by
      intro o q
      obtain ⟨x, hx⟩ := f3'.at_ v o q
      rw [List.getElem?_set] at hx
      simp at hx)
    have r0 : Rel K mg H Ex (roots (wipe σ vs) (g3.set v none) ++ (hidR σ g1 (v :: vs) ++ T)) ws := by
      have : roots ((wipe σ vs).set v none) (g3.set v none) = roots (wipe σ vs) (g3.set v none) := rootsNone
      rw [← this, e3]
      exact r
    unfold hidR at r0
    cases q : (wipeG g1 vs)[v]? with
    | none =>
      refine restRel f vs ⟨?_, ?_⟩ ?_
      · simpa using hlen
      · intro i o h
        simp only [Option.getD_none] at h
        rw [e3] at h
        obtain ⟨x, hx⟩ := f3'.at_ i o h
        by_cases e : v = i
        · subst e; rw [List.getElem?_set] at hx; simp at hx
        · rw [List.getElem?_set_ne e] at hx; exact ⟨x, hx⟩
      · rw [q] at r0
        simp only [Option.getD_none]
        cases z : (wipe σ vs)[v]? with
        | none => rw [z] at r0; exact r0
        | some y => rw [z] at r0; cases y <;> exact r0
    | some y =>
      cases y with
      | none =>
        refine restRel f vs ⟨?_, ?_⟩ ?_
        · simpa using hlen
        · intro i o h
          simp only [Option.getD_some] at h
          rw [e3] at h
          obtain ⟨x, hx⟩ := f3'.at_ i o h
          by_cases e : v = i
          · subst e; rw [List.getElem?_set] at hx; simp at hx
          · rw [List.getElem?_set_ne e] at hx; exact ⟨x, hx⟩
        · rw [q] at r0
          simp only [Option.getD_some]
          cases z : (wipe σ vs)[v]? with
          | none => rw [z] at r0; exact r0
          | some y => rw [z] at r0; cases y <;> exact r0
      | some o =>
        obtain ⟨x, hx⟩ := fv.at_ v o q
        rw [q, hx] at r0
        simp only [Option.getD_some]
        have fw : Fit (wipe σ vs) (g3.set v none) := ⟨by simpa using hlen, fun i o h => by
          rw [e3] at h
          obtain ⟨x, hx⟩ := f3'.at_ i o h
          by_cases e : v = i
          · subst e; rw [List.getElem?_set] at hx; simp at hx
          · rw [List.getElem?_set_ne e] at hx; exact ⟨x, hx⟩⟩
        have r1 : Rel K mg H Ex ((x, o) :: (roots (wipe σ vs) (g3.set v none) ++ (hidR σ g1 vs ++ T))) ws := r0.perm List.perm_middle
        have hv := (List.getElem?_eq_some_iff.mp hx).1
        refine restRel f vs ⟨by rw [List.length_set]; exact hlen, fun i o' h => ?_⟩ (r1.perm ?_)
        · by_cases e : v = i
          · subst e; exact ⟨x, hx⟩
          · rw [List.getElem?_set_ne e] at h
            have h2 : (g3.set v none)[i]? = some (some o') := by rw [List.getElem?_set_ne e]; exact h
            exact fw.at_ i o' h2
        · have f0 : Fit (wipe σ vs) g3 := by rw [← e3]; exact fw
          exact (rootsPut f0 hx).symm.append_right _
end
/-- the turns: data in, what is made so far -/
def lcM (vs : List Nat) (set : O → M Unit) (tst : M Bool) (elt : M O) : List PyData → List O → M (List O)
  | [], acc => M.ret acc
  | x :: r, acc => M.bd (set (.d x)) fun _ => M.bd tst fun b => if b = true then M.bd elt (fun o g => lcM vs set tst elt r (acc ++ [o]) (wipeG g vs)) else fun g => lcM vs set tst elt r acc (wipeG g vs)
def Res.noXR {α : Type} : Res α → Res α
  | .ok a e => .ok a e
  | .all f => .all fun v => (f v).noXR
  | _ => .bad
def Res.noX {α : Type} (r : Res α) : Res α := match r with
  | .ok a e => .ok a e
  | .all f => .all fun v => (f v).noXR
  | _ => .bad
theorem Res.noXR_eq {α : Type} : ∀ {r : Res α}, r.noXR = r.noX
  | .ok _ _ => rfl
  | .ex _ _ => rfl
  | .bad => rfl
  | .all _ => rfl
theorem Res.wp_noX {α : Type} {A : α → Gs → Prop} {B : Exn → Gs → Prop} : ∀ {r : Res α}, Wp r.noX A B ↔ Wp r A (fun _ _ => False)
  | .ok a e => Iff.rfl
  | .ex x e => Iff.rfl
  | .bad => Iff.rfl
  | .all f => wp_all.trans ((forall_congr' fun v => by rw [Res.noXR_eq]; exact Res.wp_noX (r := f v)).trans wp_all.symm)
def compM (vs : List Nat) (mi : M (List PyData)) (set : O → M Unit) (tst : M Bool) (elt : M O) : M O := M.bd mi fun ds g1 =>
  if lenOk ds.length = true then (lcM vs set tst elt ds [] (wipeG g1 vs)).noX.bd fun os g3 => .ok (.lst os) (restG g1 vs g3)
  else .bad
def yesM : M Bool := M.ret true
abbrev WX0 : WX := fun _ _ _ _ => False
structure EvC (X : Cx) (W : WX) (pu : Bool) (cs : List Expr) (m : M Bool) : Prop where
  ex : ∃ t, PTs X cs t ∧ ∀ (σ : L2.St) (H : Hp) (Q : Bool → Hp → Prop) (g : Gs) (T : Roots) (Ex : List (Addr × HO)) (ws : Roots), At X H Ex σ g T ws →
    Wp (m g) (fun b g' => ∀ H', (pu = true → g' = g ∧ Same H H') → At X H' Ex σ g' T (Vs pu ws) → Q b H')
      (fun x g' => ∀ H' cls d, At X H' Ex σ g' T [] → ExAt X.mg Ex cls d H' x → W cls d σ H') → t σ H Q
/-- a target of a comprehension: it leaves the heap, and slots but its own -/
structure EvB (X : Cx) (vs : List Nat) (tg : Expr) (f : O → M Unit) : Prop where
  ex : ∃ t, PG X tg t ∧ ∀ (σ : L2.St) (H : Hp) (Q : L2.St → Hp → Prop) (g : Gs) (T : Roots) (Ex : List (Addr × HO)) (ws : Roots) (v : V) (o : O) (B : Exn → Gs → Prop), At X H Ex σ g ((v, o) :: T) ws →
    Wp (f o g) (fun _ g' => ∀ σ', wipe σ' vs = wipe σ vs → wipeG g' vs = wipeG g vs → At X H Ex σ' g' T ws → Q σ' H) B → t v σ H Q
section
variable {X : Cx} {W : WX} {pu pv pw : Bool} {H H' : Hp} {Ex : List (Addr × HO)} {σ σ' : L2.St} {g : Gs} {T T' ws ws' : Roots} {e a b o : Expr} {es : List Expr} {m : M O} {pos p apos : Pos} {k j np : Nat} {x : Str}
theorem ec_yes : EvC X W true [] yesM := ⟨_, pts_nil, fun σ H Q g T Ex ws a w => w H (fun _ => ⟨rfl, Same.refl _⟩) a⟩
theorem wipeSetSt {σ : L2.St} {i : Nat} {x : Option V} : ∀ {vs : List Nat}, i ∈ vs → wipe (σ.set i x) vs = wipe σ vs
  | v :: vs, h => by
    unfold wipe
    by_cases hm : i ∈ vs
    · rw [wipeSetSt hm]
    · rcases List.mem_cons.mp h with e | e
      · subst e
        have : ∀ vs : List Nat, i ∉ vs → wipe (σ.set i x) vs = (wipe σ vs).set i x := by
          intro vs
          induction vs with
          | nil => intro _; rfl
          | cons v vs ih =>
            intro hv
            unfold wipe
            rw [ih (fun z => hv (List.mem_cons_of_mem _ z)), List.set_comm _ _ (fun z => hv (by rw [z]; exact List.mem_cons_self))]
        rw [this vs hm, List.set_set]
      · exact absurd e hm
theorem wipeSetG {g : Gs} {i : Nat} {x : Option O} : ∀ {vs : List Nat}, i ∈ vs → wipeG (g.set i x) vs = wipeG g vs
  | v :: vs, h => by
    unfold wipeG
    by_cases hm : i ∈ vs
    · rw [wipeSetG hm]
    · rcases List.mem_cons.mp h with e | e
      · subst e
        have : ∀ vs : List Nat, i ∉ vs → wipeG (g.set i x) vs = (wipeG g vs).set i x := by
          intro vs
          induction vs with
          | nil => intro _; rfl
          | cons v vs ih =>
            intro hv
            unfold wipeG
            rw [ih (fun z => hv (List.mem_cons_of_mem _ z)), List.set_comm _ _ (fun z => hv (by rw [z]; exact List.mem_cons_self))]
        rw [this vs hm, List.set_set]
      · exact absurd e hm
theorem eb_name (i : Nat) {vs : List Nat} {x : Str} (hm : i ∈ vs) (hN : X.N.Nodup) (hi : X.N[i]? = some x) (hx : Loc X.env.scope x) (hf : X.fn x = true ∨ X.env.scope.names.lookup x = some .local := by first | exact .inl rfl | exact .inr rfl | assumption) : EvB X vs (.Name x pos) (setM i) :=
  ⟨_, pg_name hN hi hx hf, fun σ H Q g T Ex ws v o B a w => w _ (wipeSetSt hm) (wipeSetG hm) a.storeAny⟩
theorem At.cx {Y Y2 : Cx} (a : At Y H Ex σ g T ws) (h1 : Y.K = Y2.K := by rfl) (h2 : Y.mg = Y2.mg := by rfl) : At Y2 H Ex σ g T ws := ⟨a.fit, by rw [← h1, ← h2]; exact a.rel⟩
abbrev BI := Shared × Hp × Addr × List (Str × Addr) × List Addr
abbrev blkAt (X : Cx) (scope : Scope) (i : BI) : Cx := X.blk i.1 i.2.1 scope (compEnvC scope i.2.2.2.1 i.2.2.1 X.env) i.2.2.2.2
theorem Cc.blk (c : Cc X W k) (scope : Scope) (i : BI) : Cc (blkAt X scope i) WX0 k := ⟨takes0, c.hr, c.calm, c.nd, PySem.PassesOwn.never⟩
theorem wipe2 {σ : L2.St} {vs' : List Nat} : ∀ {vs : List Nat}, (∀ v ∈ vs, v ∈ vs') → wipe (wipe σ vs) vs' = wipe σ vs'
  | [], _ => rfl
  | v :: vs, h => by
    show wipe ((wipe σ vs).set v none) vs' = _
    rw [wipeSetSt (h v List.mem_cons_self), wipe2 fun u m => h u (List.mem_cons_of_mem _ m)]
theorem wipeRel {K : PySem.W.Frag} {mg : Str → Option Value} {R : Roots} {vs : List Nat} (f : Fit σ g) (r : Rel K mg H Ex (roots σ g ++ R) ws) : Rel K mg H Ex (roots (wipe σ vs) (wipeG g vs) ++ R) ws := by
  have r1 := r.perm ((wipeRoots f vs).append_right R)
  rw [List.append_assoc] at r1
  have r2 := r1.perm (List.perm_append_comm_assoc (roots (wipe σ vs) (wipeG g vs)) (hidR σ g vs) R)
  exact r2.dropL
theorem ev_comp {tg iter elt : Expr} {ifs : List Expr} {scope : Scope} {own : List (Str × Nat)} {mi : M (List PyData)} {set : O → M Unit} {tst : M Bool} {me : M O} (c : Cc X W k) (hi : EvI X W pu tg iter mi) (ok : BlkOk X.N X.env.scope scope own)
    (hg : ∀ i : BI, EvB (blkAt X scope i) (own.map (·.2)) tg set) (ht : ∀ i : BI, EvC (blkAt X scope i) WX0 pv ifs tst) (he : ∀ i : BI, Ev (blkAt X scope i) WX0 pw elt me) (hs : ∀ x, foldedSetIterable iter X.env x = pure x := by intro _; rfl) :
    Ev X W false (.ListComp elt [⟨tg, iter, ifs, 0⟩] scope pos) (compM (own.map (·.2)) mi set tst me) ∧ ∃ wi g tt te, PI X tg iter wi ∧ (∀ (s : Shared) (H : Hp) (C : Addr) (cl : List (Str × Addr)) (fp : List Addr), PG (X.blk s H scope (compEnvC scope cl C X.env) fp) tg g) ∧
      (∀ (s : Shared) (H : Hp) (C : Addr) (cl : List (Str × Addr)) (fp : List Addr), PTs (X.blk s H scope (compEnvC scope cl C X.env) fp) ifs tt) ∧ (∀ (s : Shared) (H : Hp) (C : Addr) (cl : List (Str × Addr)) (fp : List Addr), PE (X.blk s H scope (compEnvC scope cl C X.env) fp) elt te) ∧
      ∀ (σ : L2.St) (H : Hp) (Q : VK) (g0 : Gs) (T : Roots) (Ex : List (Addr × HO)) (ws : Roots), At X H Ex σ g0 T ws →
    Wp (compM (own.map (·.2)) mi set tst me g0) (fun o g' => ∀ v H', (false = true → g' = g0 ∧ Same H H') → At X H' Ex σ g' ((v, o) :: T) (Vs false ws) → Q v H')
      (fun x g' => ∀ H' cls d, At X H' Ex σ g' T [] → ExAt X.mg Ex cls d H' x → W cls d σ H') → tLc wi g tt te (own.map (·.2)) σ H Q := by
  obtain ⟨wi, i1, i2⟩ := hi.ex
  let tgU : TG := fun v σ H Q => ∀ i, (hg i).ex.choose v σ H Q
  let ttU : TT := fun σ H Q => ∀ i, (ht i).ex.choose σ H Q
  let teU : TE := fun σ H Q => ∀ i, (he i).ex.choose σ H Q
  have p1 : ∀ (s : Shared) (H : Hp) (C : Addr) (cl : List (Str × Addr)) (fp : List Addr), PG (X.blk s H scope (compEnvC scope cl C X.env) fp) tg tgU := fun s H C cl fp =>
    ⟨fun pins s' σ H' v u Q I r q => (hg (s, H, C, cl, fp)).ex.choose_spec.1.run pins s' σ H' v u Q I r (q _)⟩
  have p2 : ∀ (s : Shared) (H : Hp) (C : Addr) (cl : List (Str × Addr)) (fp : List Addr), PTs (X.blk s H scope (compEnvC scope cl C X.env) fp) ifs ttU := fun s H C cl fp =>
    ⟨fun pins s' σ H' Q I q => (ht (s, H, C, cl, fp)).ex.choose_spec.1.run pins s' σ H' Q I (q _)⟩
  have p3 : ∀ (s : Shared) (H : Hp) (C : Addr) (cl : List (Str × Addr)) (fp : List Addr), PE (X.blk s H scope (compEnvC scope cl C X.env) fp) elt teU := fun s H C cl fp =>
    ⟨fun pins s' σ H' Q I q => (he (s, H, C, cl, fp)).ex.choose_spec.1.run pins s' σ H' Q I (q _)⟩
  have core : ∀ (σ : L2.St) (H : Hp) (Q : VK) (g0 : Gs) (T : Roots) (Ex : List (Addr × HO)) (ws : Roots), At X H Ex σ g0 T ws →
    Wp (compM (own.map (·.2)) mi set tst me g0) (fun o g' => ∀ v H', (false = true → g' = g0 ∧ Same H H') → At X H' Ex σ g' ((v, o) :: T) (Vs false ws) → Q v H')
      (fun x g' => ∀ H' cls d, At X H' Ex σ g' T [] → ExAt X.mg Ex cls d H' x → W cls d σ H') → tLc wi tgU ttU teU (own.map (·.2)) σ H Q := by
    intro σ H Q g T Ex ws a w
    generalize hvs : own.map (·.2) = vs at w ⊢
    refine i2 σ H _ g T Ex ws a (w.bd.imp (fun ds g1 kk J H1 Tk wk s a1 => ?_) fun _ _ kk => kk)
    intro D hD
    split at kk
    · rename_i hlen
      have hsz := lenOk_le hlen
      · have kk2 := Res.wp_noX.mp (Res.wp_bd.mp kk)
        have w0 : Wp (lcM vs set tst me (ds.drop 0) [] (wipeG g1 vs)) (fun os' g' => Wp (.ok (.lst os') (restG g1 vs g')) (fun o g' => ∀ v H', (false = true → g' = g ∧ Same H H') → At X H' Ex σ g' ((v, o) :: T) (Vs false ws) → Q v H') (fun x g' => ∀ H' cls d, At X H' Ex σ g' T [] → ExAt X.mg Ex cls d H' x → W cls d σ H')) (fun _ _ => False) := by
          rw [List.drop_zero]
          exact kk2
        refine ⟨fun i n H2 => n = ds.length - i ∧ i ≤ ds.length ∧ ∃ (acc : List O) (va : List V) (g2 : Gs), va.length = acc.length ∧ acc.length ≤ i ∧ Fit (wipe σ vs) g2 ∧ Rel X.K X.mg H2 ((D, .lst va) :: Ex) (roots (wipe σ vs) g2 ++ (va.zip acc ++ (Tk ++ (hidR σ g1 vs ++ T)))) [] ∧
          Wp (lcM vs set tst me (ds.drop i) acc g2) (fun os' g' => Wp (.ok (.lst os') (restG g1 vs g')) (fun o g' => ∀ v H', (false = true → g' = g ∧ Same H H') → At X H' Ex σ g' ((v, o) :: T) (Vs false ws) → Q v H') (fun x g' => ∀ H' cls d, At X H' Ex σ g' T [] → ExAt X.mg Ex cls d H' x → W cls d σ H')) (fun _ _ => False), ⟨ds.length, rfl, Nat.zero_le _, [], [], _, rfl, Nat.le_refl _, wipeFit a1.fit vs, ?_, w0⟩, ?_⟩
        · refine (Rel.new (ws := Vs pu ws) (.lst []) ?_ hD).noviews
          have r1 := a1.rel.perm ((wipeRoots a1.fit vs).append_right (Tk ++ T))
          rw [List.append_assoc] at r1
          exact r1.perm ((List.perm_append_comm_assoc _ _ _).append_left _)
        · rintro i n H2 ⟨rfl, hle, acc, va, g2, hva, hacc, f2, r2, w2⟩
          have rTk : Rel X.K X.mg H2 ((D, .lst va) :: Ex) (Tk ++ (roots (wipe σ vs) g2 ++ (va.zip acc ++ (hidR σ g1 vs ++ T)))) [] := by
            refine r2.perm ?_
            refine ((List.perm_append_comm_assoc _ _ _).append_left _).trans ?_
            exact List.perm_append_comm_assoc _ _ _
          by_cases hlt : i < ds.length
          · refine .inr ⟨wk.go i H2 _ _ hlt rTk, fun H' => ∃ m', m' < ds.length - i ∧ (m' = ds.length - (i + 1) ∧ i + 1 ≤ ds.length ∧ ∃ (acc : List O) (va : List V) (g2 : Gs), va.length = acc.length ∧ acc.length ≤ i + 1 ∧ Fit (wipe σ vs) g2 ∧ Rel X.K X.mg H' ((D, .lst va) :: Ex) (roots (wipe σ vs) g2 ++ (va.zip acc ++ (Tk ++ (hidR σ g1 vs ++ T)))) [] ∧
              Wp (lcM vs set tst me (ds.drop (i + 1)) acc g2) (fun os' g' => Wp (.ok (.lst os') (restG g1 vs g')) (fun o g' => ∀ v H', (false = true → g' = g ∧ Same H H') → At X H' Ex σ g' ((v, o) :: T) (Vs false ws) → Q v H') (fun x g' => ∀ H' cls d, At X H' Ex σ g' T [] → ExAt X.mg Ex cls d H' x → W cls d σ H')) (fun _ _ => False)), fun _ h => h, fun x H3 y => ?_⟩
            obtain ⟨s3, r3⟩ := wk.yld i H2 _ _ x H3 hlt rTk y
            rw [List.drop_eq_getElem_cons hlt] at w2
            intro bi
            have a3 : At (blkAt X scope bi) H3 ((D, .lst va) :: Ex) (wipe σ vs) g2 ((x, .d ds[i]) :: (va.zip acc ++ (Tk ++ (hidR σ g1 vs ++ T)))) [] := by
              refine .ofTop f2 (r3.perm (.cons _ ?_))
              refine (List.perm_append_comm_assoc _ _ _).trans ?_
              exact (List.perm_append_comm_assoc _ _ _).append_left _
            refine (hg bi).ex.choose_spec.2 (wipe σ vs) H3 _ g2 _ _ [] x _ (fun _ _ => False) a3 ?_
            have w3 : Wp (M.bd (set (.d ds[i])) _ g2) _ _ := w2
            refine w3.bd.imp (fun _ g4 kk4 σ4 e1 e2 a4 => ⟨?_, ?_⟩) fun _ _ z => z
            · rw [hvs] at e1
              rw [e1, wipe2 fun _ h => h]
            intro bj
            have ew : wipe σ4 vs = wipe σ vs := by
              rw [hvs] at e1
              rw [e1, wipe2 fun _ h => h]
            refine (ht bj).ex.choose_spec.2 σ4 H3 _ g4 _ _ [] a4.cx (kk4.bd.imp (fun b g5 kk5 H5 s5 a5 => ?_) fun _ _ z => z.elim)
            have fin : ∀ {H6 : Hp} {g6 : Gs} {acc' : List O} {va' : List V}, va'.length = acc'.length → acc'.length ≤ i + 1 → Fit σ4 g6 → Rel X.K X.mg H6 ((D, .lst va') :: Ex) (roots σ4 g6 ++ (va'.zip acc' ++ (Tk ++ (hidR σ g1 vs ++ T)))) [] →
                Wp (lcM vs set tst me (ds.drop (i + 1)) acc' (wipeG g6 vs)) (fun os' g' => Wp (.ok (.lst os') (restG g1 vs g')) (fun o g' => ∀ v H', (false = true → g' = g ∧ Same H H') → At X H' Ex σ g' ((v, o) :: T) (Vs false ws) → Q v H') (fun x g' => ∀ H' cls d, At X H' Ex σ g' T [] → ExAt X.mg Ex cls d H' x → W cls d σ H')) (fun _ _ => False) →
                ∃ m', m' < ds.length - i ∧ (m' = ds.length - (i + 1) ∧ i + 1 ≤ ds.length ∧ ∃ (acc : List O) (va : List V) (g2 : Gs), va.length = acc.length ∧ acc.length ≤ i + 1 ∧ Fit (wipe σ vs) g2 ∧ Rel X.K X.mg H6 ((D, .lst va) :: Ex) (roots (wipe σ vs) g2 ++ (va.zip acc ++ (Tk ++ (hidR σ g1 vs ++ T)))) [] ∧
                  Wp (lcM vs set tst me (ds.drop (i + 1)) acc g2) (fun os' g' => Wp (.ok (.lst os') (restG g1 vs g')) (fun o g' => ∀ v H', (false = true → g' = g ∧ Same H H') → At X H' Ex σ g' ((v, o) :: T) (Vs false ws) → Q v H') (fun x g' => ∀ H' cls d, At X H' Ex σ g' T [] → ExAt X.mg Ex cls d H' x → W cls d σ H')) (fun _ _ => False)) := by
              intro H6 g6 acc' va' h1 h2 f6 r6 w6
              refine ⟨_, by omega, rfl, hlt, acc', va', wipeG g6 vs, h1, h2, ?_, ?_, w6⟩
              · rw [← ew]; exact wipeFit f6 vs
              · rw [← ew]; exact wipeRel f6 r6
            cases b with
            | false => exact iteF (fin hva (by omega) a5.fit a5.noV.rel kk5)
            | true =>
              refine iteT ?_
              intro bk
              refine (he bk).ex.choose_spec.2 σ4 H5 _ g5 _ _ [] a5.noV.cx ((Wp.bd kk5).imp (fun o g6 kk6 y H6 s6 a6 => ?_) fun _ _ z => z.elim)
              obtain ⟨Hf, as, sm, hex, _⟩ := a6.rel.ex
              refine ⟨va, hex _ List.mem_cons_self, ?_, ?_⟩
              · rw [hva]
                exact Nat.lt_of_le_of_lt hacc (Nat.lt_of_lt_of_le hlt hsz)
              · refine fin (acc' := acc ++ [o]) (va' := va ++ [y]) (by simp [hva]) (by simp; omega) a6.fit ?_ kk6
                have r6 := a6.rel.write (.lst (va ++ [y]))
                refine r6.perm ?_
                rw [List.zip_append hva]
                simp only [List.zip_cons_cons, List.zip_nil_right, List.append_assoc]
                exact (List.perm_middle (a := (y, o))).symm.append_left _
          · have e : i = ds.length := by omega
            subst e
            rw [List.drop_length] at w2
            refine .inl ⟨wk.stop _ H2 _ _ (Nat.le_refl _) rTk, w2 _ H2 (fun z => by cases z) ?_⟩
            have r5 : Rel X.K X.mg H2 ((D, .lst va) :: Ex) (va.zip acc ++ (Tk ++ (roots (wipe σ vs) g2 ++ (hidR σ g1 vs ++ T)))) [] := by
              refine r2.perm ?_
              refine (List.perm_append_comm_assoc _ _ _).trans ?_
              exact (List.perm_append_comm_assoc _ _ _).append_left _
            have r6 := r5.shut (.lst (os := acc)) hva
            have r7 : Rel X.K X.mg H2 Ex (Tk ++ (roots (wipe σ vs) g2 ++ (hidR σ g1 vs ++ ((.ref D, .lst acc) :: T)))) [] := by
              refine r6.perm (List.Perm.symm ?_)
              refine ((List.perm_middle.append_left _).append_left _).trans ?_
              refine (List.perm_middle.append_left _).trans ?_
              exact List.perm_middle
            obtain ⟨f8, r8⟩ := restRel a1.fit vs f2 r7.dropL
            exact ⟨f8, r8⟩
    · exact kk.elim
  exact ⟨⟨_, pe_lc c.calm c.nd i1 ok p1 p2 p3 hs, core⟩, wi, tgU, ttU, teU, i1, p1, p2, p3, core⟩
end
end Z
namespace Z
open PySem PySem.Spec L2
def optAll : List (Option O) → Option (List O)
  | [] => some []
  | some o :: r => match optAll r with
    | some os => some (o :: os)
    | none => none
  | none :: _ => none
def isD : O → Bool
  | .d _ => true
  | _ => false
def finF (np : Nat) (os : List O) (o : O) (g : Gs) : FRes := match optAll (g.take np) with
  | some ps => .ok o (ps ++ os.drop np)
  | none => .bad
def Res.toFR : Res Fl → (Fl → Gs → FRes) → FRes
  | .ok fl g, k => k fl g
  | .ex x _, _ => .ex x
  | .bad, _ => .bad
  | .all f, k => .all fun v => (f v).toFR k
def Res.toF (r : Res Fl) (k : Fl → Gs → FRes) : FRes := match r with
  | .ok fl g => k fl g
  | .ex x _ => .ex x
  | .bad => .bad
  | .all f => .all fun v => (f v).toFR k
theorem Res.toFR_eq {k : Fl → Gs → FRes} : ∀ {r : Res Fl}, r.toFR k = r.toF k
  | .ok _ _ => rfl
  | .ex _ _ => rfl
  | .bad => rfl
  | .all _ => rfl
theorem Res.fw_toF {k : Fl → Gs → FRes} {A : O → List O → Prop} {B : Exn → Prop} : ∀ {r : Res Fl}, FW (r.toF k) A B ↔ Wp r (fun fl g => FW (k fl g) A B) (fun x _ => B x)
  | .ok fl g => Iff.rfl
  | .ex x _ => Iff.rfl
  | .bad => Iff.rfl
  | .all f => fw_all.trans ((forall_congr' fun v => by rw [Res.toFR_eq]; exact Res.fw_toF (r := f v)).trans wp_all.symm)
def endF (np : Nat) (os : List O) : Fl → Gs → FRes
  | .next, g => finF np os (.d .none) g
  | .ret o, g => finF np os o g
  | _, _ => .bad
def runF (np na nN : Nat) (m : M Fl) : Fn := fun os => if os.length = na ∧ (os.drop np).all isD = true then
    (m (os.map some ++ List.replicate (nN - na) none)).toF (endF np os)
  else .bad
theorem rootsApp : ∀ {s1 s2 : L2.St} {g1 g2 : Gs}, s1.length = g1.length → roots (s1 ++ s2) (g1 ++ g2) = roots s1 g1 ++ roots s2 g2
  | [], _, [], _, _ => by simp [roots]
  | s :: s1, s2, p :: g1, g2, h => by
    have ih := rootsApp (s1 := s1) (s2 := s2) (g1 := g1) (g2 := g2) (by simpa using h)
    cases s with
    | none => simpa only [List.cons_append, roots] using ih
    | some w => cases p <;> simp only [List.cons_append, roots, ih]
  | [], _, _ :: _, _, h => by simp at h
  | _ :: _, _, [], _, h => by simp at h
theorem rootsSome : ∀ {vs : List V} {os : List O}, vs.length = os.length → roots (vs.map some) (os.map some) = vs.zip os
  | [], [], _ => rfl
  | v :: vs, o :: os, h => by
    simp only [List.map_cons, roots, List.zip_cons_cons]
    rw [rootsSome (by simpa using h)]
  | [], _ :: _, h => by simp at h
  | _ :: _, [], h => by simp at h
theorem rootsRep : ∀ (n m : Nat), roots (List.replicate n none) (List.replicate m none) = []
  | 0, _ => by simp [roots]
  | n + 1, 0 => by simp [roots]
  | n + 1, m + 1 => by simp only [List.replicate_succ, roots]; exact rootsRep n m
theorem optAllMap : ∀ {l : List (Option O)} {os : List O}, optAll l = some os → l = os.map some
  | [], os, h => by simp only [optAll, Option.some.injEq] at h; subst h; rfl
  | some o :: r, os, h => by
    simp only [optAll] at h
    cases q : optAll r with
    | none => rw [q] at h; cases h
    | some y => rw [q] at h; cases h; rw [List.map_cons, ← optAllMap q]
  | none :: _, _, h => by simp [optAll] at h
section
variable {K : PySem.W.Frag} {mg : Str → Option Value} {H : Hp} {Ex : List (Addr × HO)} {T ws rs : Roots} {σ : L2.St} {g g1 : Gs}
theorem dupAll : ∀ {vs : List V} {os : List O} {rs : Roots}, os.all isD = true → Rel K mg H Ex (vs.zip os ++ rs) ws → Rel K mg H Ex (vs.zip os ++ (vs.zip os ++ rs)) ws
  | [], _, _, _, r => by simpa using r
  | _ :: _, [], _, _, r => by simpa using r
  | v :: vs, o :: os, rs, h, r => by
    simp only [List.all_cons, Bool.and_eq_true] at h
    cases o with
    | d x =>
      simp only [List.zip_cons_cons, List.cons_append] at r ⊢
      have r1 := r.dup
      have r2 : Rel K mg H Ex (vs.zip os ++ ((v, .d x) :: (v, .d x) :: rs)) ws := by
        refine r1.perm (List.Perm.symm ?_)
        exact List.perm_middle.trans (.cons _ List.perm_middle)
      have r3 := dupAll h.2 r2
      refine r3.perm ?_
      refine ((List.perm_middle.append_left _).trans List.perm_middle).trans (.cons _ ?_)
      exact (List.perm_middle.append_left _)
    | _ => simp [isD] at h
end
section
theorem fnG_of {CX : CXT} {P : Program} {w : World} {K : PySem.W.Frag} {mg : Str → Option Value} {base : Heap} {k : Nat} {f : Addr} {nm qual : Str} {pr : Arguments} {bd : List Stmt} {sc : Scope} {dV kV doc pm cdv ct oc : Value} {an od : Option Addr} {osl : Array (Option Value)} {N ps : List Str} {sp : Sp}
    (lk : K.lookup f = some ⟨oc, od, .func (PySem.W.fnOf nm qual pr bd sc dV kV doc pm an cdv ct), osl⟩) (hcd : PySem.W.codeIn K cdv qual = true) (S : FnScope N ps sc) (ln : ∀ vs H Q E, sp vs H Q E → vs.length = ps.length)
    (bo : ∀ (A : Around) (o : List Env) (s : Shared) (H : Hp) (vs : List V) (Q : VK) (E : XK), RoomG k (A.deeper (PyProof.Rows.envOfC qual sc s.heap.objs.size f cdv)) → sp vs H Q E →
      ∃ t, PSs (cxOf CX P w K mg base N qual sc f cdv A o s H E) bd t ∧ t { nx := fun _ H' => Q .non H', rt := Q } (L2.start N vs) H) : FnG P w K mg base CX (k + 1) f (PySem.W.fnOf nm qual pr bd sc dV kV doc pm an cdv ct) ps sp where
  len := ln
  run := by
    intro A o s H args us vs Q E hr e0 hb rv hsp
    have KX : K.In s.heap := e0.mod.kin.keeps fun b u z => (e0.bs b u z).1
    have lim : s.heap.NoLimit := e0.mod.nolimit.keeps fun b u z => (e0.bs b u z).1
    obtain ⟨t, ht, hq⟩ := bo A o s H vs Q E (hr.deeper _) hsp
    have par : ∀ y ∈ ps.zip us, sc.names.lookup y.1 = some .local ∨ (sc.names.lookup y.1 = some .cell ∧ ((cellsFrom (s.heap.objs.size + 1) sc.names []).lookup y.1).isSome = true) := by
      intro y hy
      obtain ⟨n, v⟩ := y
      have hn := (List.of_mem_zip hy).1
      exact (S.par n hn).imp id fun q => ⟨q, PySem.W.cellsFrom_some _ _ _ (.inl q)⟩
    refine codeAny_call_function hr.r.depth (KX _ _ lk) rfl S.co S.gen rfl (PySem.W.codeRec_of KX hcd) (hb _ _ _ _ (wpAny_newFunctionEnv_cells S.kind par fun env he s1 x => ?_))
    subst he
    refine ⟨lim.keeps x.toInCall.keep, codeAny_func ?_⟩
    refine wpAny_mono (ht.run [] s1 (L2.start N vs) H _ (inv_start S hr.hd e0 (ln _ _ _ _ hsp) rv x) hq) (fun fl s' z => ?_) fun e s' z => z
    cases fl with
    | ret u =>
      obtain ⟨v, σ', H', J, r1, q⟩ := z
      exact ⟨v, H', J.os, J.bare, J.base, J.hok, r1, q⟩
    | next =>
      obtain ⟨σ', H', J, q⟩ := z
      exact ⟨V.non, H', J.os, J.bare, J.base, J.hok, rfl, q⟩
    | brk =>
      obtain ⟨_, _, _, q⟩ := z
      exact q.elim
    | cont =>
      obtain ⟨_, _, _, q⟩ := z
      exact q.elim
end
section
variable {P : Program} {w : World} {K : PySem.W.Frag} {mg : Str → Option Value} {base : Heap}
/-- a def by its body -/
theorem funG {x qual : Str} {st : Stmt} {f : Addr} {fd : FuncData} {N ps : List Str} {k : Nat} {sp : Sp} (F : Fun K x qual st f fd) (S : FnScope N ps (defScope st)) (ln : ∀ vs H Q E, sp vs H Q E → vs.length = ps.length)
    (bo : ∀ (cdv : Value) (A : Around) (o : List Env) (s : Shared) (H : Hp) (vs : List V) (Q : VK) (E : XK), RoomG k (A.deeper (PyProof.Rows.envOfC qual (defScope st) s.heap.objs.size f cdv)) → sp vs H Q E →
      ∃ t, PSs (cxOf (L2.CX P w) P w K mg base N qual (defScope st) f cdv A o s H E) (defBody st) t ∧ t { nx := fun _ H' => Q .non H', rt := Q } (start N vs) H) : FnG P w K mg base (L2.CX P w) (k + 1) f fd ps sp := by
  obtain ⟨oc, od, kV, doc, pm, an, cdv, ct, osl, rfl, lk, hcd⟩ := F.ex
  exact fnG_of lk hcd S ln fun A o s H vs Q E hr hsp => bo cdv A o s H vs Q E hr hsp
theorem fnRule {x qual : Str} {st : Stmt} {f : Addr} {fd : FuncData} {N ps : List Str} {k : Nat} {m : M Fl} (np : Nat) (F : Fun K x qual st f fd) (S : FnScope N ps (defScope st)) (hnp : np ≤ ps.length)
    (hb : ∀ (cdv : Value) (A : Around) (outer : List Env) (s : Shared) (H : Hp) (E : XK), Cc (cxOf (L2.CX P w) P w K mg base N qual (defScope st) f cdv A outer s H E) (fun cls d _ H => E cls d H) k →
      EvSs (cxOf (L2.CX P w) P w K mg base N qual (defScope st) f cdv A outer s H E) (fun cls d _ H => E cls d H) np (defBody st) m) :
    FnG P w K mg base (L2.CX P w) (k + 1) f fd ps (spF K mg ps.length (runF np ps.length N.length m)) := by
  refine funG F S (fun vs H Q E h => h.1) (fun cdv A outer s H vs Q E hr h => ?_)
  obtain ⟨hvl, os, Ex, T, hol, r, w⟩ := h
  have c : Cc (cxOf (L2.CX P ‹World›) P ‹World› K mg base N qual (defScope st) f cdv A outer s H E) (fun cls d _ H => E cls d H) k := ⟨takes_of rfl rfl rfl rfl, hr, rfl, S.nd, passes_of rfl⟩
  obtain ⟨t, h1, h2⟩ := (hb cdv A outer s H E c).ex
  refine ⟨t, h1, ?_⟩
  unfold runF at w
  split at w
  · rename_i hcond
    obtain ⟨hol', hall⟩ := hcond
    have hvo : vs.length = os.length := hvl.trans hol.symm
    have hz : vs.zip os = (vs.take np).zip (os.take np) ++ (vs.drop np).zip (os.drop np) := by
      conv => lhs; rw [← List.take_append_drop np vs, ← List.take_append_drop np os]
      exact List.zip_append (by simp [hvo])
    have hroots : roots (L2.start N vs) (os.map some ++ List.replicate (N.length - ps.length) none) = vs.zip os := by
      unfold L2.start
      rw [rootsApp (by simp [hvo]), rootsSome hvo, rootsRep, List.append_nil]
    have a0 : At (cxOf (L2.CX P ‹World›) P ‹World› K mg base N qual (defScope st) f cdv A outer s H E) H Ex (L2.start N vs) (os.map some ++ List.replicate (N.length - ps.length) none) ((vs.drop np).zip (os.drop np) ++ T) [] := by
      refine ⟨⟨by unfold L2.start; simp [hvo, hvl, hol], fun i o hi => ?_⟩, ?_⟩
      · by_cases hlt : i < os.length
        · unfold L2.start
          rw [List.getElem?_append_left (by simpa [hvo] using hlt)]
          refine ⟨vs[i]'(by omega), ?_⟩
          rw [List.getElem?_map, List.getElem?_eq_getElem (by omega)]
          rfl
        · rw [List.getElem?_append_right (by simpa using hlt), List.getElem?_replicate] at hi
          split at hi <;> cases hi
      · rw [hroots]
        rw [hz, List.append_assoc] at r ⊢
        have r1 := r.perm (List.perm_append_comm_assoc _ _ _)
        have r2 := dupAll hall r1
        refine r2.perm ?_
        refine ((List.perm_append_comm_assoc _ _ _).append_left _).trans ?_
        exact List.perm_append_comm_assoc _ _ _
    -- the end: what the parameters hold
    have fin : ∀ {o : O} {g : Gs} {v : V} {σ' : L2.St} {H' : Hp}, FW (finF np os o g) (fun r ps' => ps'.length = ps.length ∧ ∀ v H', Rel K mg H' Ex ((v, r) :: (vs.zip ps' ++ T)) [] → Q v H') (fun x => ∀ H' cls d, Rel K mg H' Ex T [] → ExAt mg Ex cls d H' x → E cls d H') →
        Pin np (L2.start N vs) σ' → Fit σ' g → Rel K mg H' Ex ((v, o) :: (roots σ' g ++ ((vs.drop np).zip (os.drop np) ++ T))) [] → Q v H' := by
      intro o g v σ' H' fw pin fit rr
      unfold finF at fw
      cases q : optAll (g.take np) with
      | none => rw [q] at fw; exact fw.elim
      | some ps1 =>
        rw [q] at fw
        obtain ⟨hl, kq⟩ := fw
        refine kq v H' ?_
        have hg := optAllMap q
        have hps1 : ps1.length = np := by
          have : (ps1 ++ os.drop np).length = ps.length := hl
          rw [List.length_append, List.length_drop, hol] at this
          omega
        have hσ : σ'.take np = (vs.take np).map some := by
          apply List.ext_getElem?
          intro i
          by_cases hi : i < np
          · rw [List.getElem?_take_of_lt hi, pin i hi]
            unfold L2.start
            rw [List.getElem?_append_left (by simp [hvl]; omega), List.getElem?_map, List.getElem?_map, List.getElem?_take_of_lt hi]
          · rw [List.getElem?_eq_none (by simp; omega), List.getElem?_eq_none (by simp; omega)]
        have e1 : roots σ' g = (vs.take np).zip ps1 ++ roots (σ'.drop np) (g.drop np) := by
          conv => lhs; rw [← List.take_append_drop np σ', ← List.take_append_drop np g]
          rw [rootsApp (by simp [fit.len]), hσ, hg, rootsSome (by simp [hps1, hvl]; omega)]
        have e2 : vs.zip (ps1 ++ os.drop np) = (vs.take np).zip ps1 ++ (vs.drop np).zip (os.drop np) := by
          conv => lhs; rw [← List.take_append_drop np vs]
          exact List.zip_append (by simp [hps1, hvl]; omega)
        rw [e1] at rr
        rw [e2]
        have r1 : Rel K mg H' Ex (roots (σ'.drop np) (g.drop np) ++ ((v, o) :: ((vs.take np).zip ps1 ++ ((vs.drop np).zip (os.drop np) ++ T)))) [] := by
          refine rr.perm (List.Perm.symm ?_)
          refine List.perm_middle.trans (.cons _ ?_)
          rw [List.append_assoc]
          exact List.perm_append_comm_assoc _ _ _
        have r2 := r1.dropL
        rw [List.append_assoc]
        exact r2
    refine h2 (L2.start N vs) H _ _ _ Ex a0 ?_
    refine (Res.fw_toF.mp w).imp (fun fl g w => ?_) (fun x g w => ?_)
    · cases fl with
      | next =>
        intro σ' H' pin a'
        exact fin w pin a'.fit (a'.rel.data fun _ => .non)
      | ret o =>
        intro v σ' H' pin a'
        exact fin w pin a'.fit a'.top
      | brk => exact w.elim
      | cnt => exact w.elim
    · intro σ' H' cls d pin a' xa
      exact w H' cls d a'.rel.dropL.dropL xa
  · exact w.elim
end
end Z
namespace Z
open PySem PySem.Spec L2
section
variable {K : PySem.W.Frag} {mg : Str → Option Value} {H H' : Hp} {Ex : List (Addr × HO)} {T ws rs : Roots} {X : Cx}
theorem owAllD {Hf : Fz} : ∀ {vs : List V} {os : List O} {as : List Addr} {ds : List PyData}, OwL K mg Hf H vs os as → allD os = some ds → DpAll K Hf.h vs ds
  | _, _, _, ds, .nil, h => by simp only [allD, Option.some.injEq] at h; subst h; exact .nil
  | _, _, _, ds, .cons (o := o) (os := os) h t, e => by
    cases h with
    | d h =>
      simp only [allD] at e
      cases q : allD os with
      | none => rw [q] at e; cases e
      | some y => rw [q] at e; cases e; exact .cons h (owAllD t q)
    | _ => simp [allD] at e
theorem owOfD {Hf : Fz} : ∀ {vs : List V} {ds : List PyData}, DpAll K Hf.h vs ds → OwL K mg Hf H vs (ds.map O.d) []
  | _, _, .nil => .nil
  | _, _, .cons p q => .cons (as := []) (bs := []) (.d p) (owOfD q)
/-- the ground under a state: what is frozen, what is seen -/
theorem Rel.fr (r : Rel K mg H Ex rs ws) : ∃ Hf : Fz, Hf.on K H ∧ (∀ p ∈ ws, ∃ bs, Ow K mg Hf H p.1 p.2 bs) ∧ ∀ us ys, DpAll K Hf.h us ys → Rel K mg H Ex (us.zip (ys.map O.d) ++ rs) ws := by
  obtain ⟨Hf, as, s, he, ho, nd, hn, hw⟩ := r.ex
  refine ⟨Hf, s, hw, fun us ys h => ⟨Hf, as, s, he, ?_, nd, hn, hw⟩⟩
  obtain ⟨z1, z2⟩ := zipMap (l := us) (m := ys.map O.d) (by simpa using dpLen h)
  rw [List.map_append, List.map_append, z1, z2]
  exact owLApp (owOfD h) ho
def asL : O → Option (List PyData)
  | .d (.list ds) => some ds
  | .lst os => allD os
  | _ => none
def asT : O → Option (List PyData)
  | .d (.tuple ds) => some ds
  | _ => none
theorem owL {Hf : Fz} {v : V} {o : O} {as : List Addr} {ds : List PyData} (s : Hf.on K H) (h : Ow K mg Hf H v o as) (e : asL o = some ds) : ∃ a vs, v = .ref a ∧ SqL K H a vs ∧ DpAll K Hf.h vs ds := by
  cases h with
  | d h =>
    cases h with
    | lst h1 h2 =>
      simp only [asL, Option.some.injEq] at e
      subst e
      exact ⟨_, _, rfl, SqL.of (s.same _ _ h1), h2⟩
    | _ => simp [asL] at e
  | lst h t => exact ⟨_, _, rfl, SqL.of h, owAllD t (by simpa only [asL] using e)⟩
  | _ => simp [asL] at e
theorem owT {Hf : Fz} {v : V} {o : O} {as : List Addr} {ds : List PyData} (s : Hf.on K H) (h : Ow K mg Hf H v o as) (e : asT o = some ds) : ∃ a vs, v = .ref a ∧ SqT K H a vs ∧ DpAll K Hf.h vs ds := by
  cases h with
  | d h =>
    cases h with
    | tup h1 _ h2 =>
      simp only [asT, Option.some.injEq] at e
      subst e
      exact ⟨_, _, rfl, SqT.of (s.same _ _ h1), h2⟩
    | ftup h1 _ _ h2 =>
      simp only [asT, Option.some.injEq] at e
      subst e
      exact ⟨_, _, rfl, .inl (.inr ⟨_, s.same _ _ h1⟩), h2⟩
    | ktup h1 _ q _ h2 =>
      simp only [asT, Option.some.injEq] at e
      subst e
      exact ⟨_, _, rfl, .inr ⟨_, _, _, h1, q⟩, h2⟩
    | _ => simp [asT] at e
  | _ => simp [asT] at e
theorem owTD {Hf : Fz} {v : V} {o : O} {as : List Addr} {ds : List PyData} (h : Ow K mg Hf H v o as) (e : asT o = some ds) : Dp K Hf.h v (.tuple ds) := by
  cases h with
  | d h =>
    cases h with
    | tup h1 h0 h2 =>
      simp only [asT, Option.some.injEq] at e
      subst e
      exact .tup h1 h0 h2
    | ftup h1 h0 hj h2 =>
      simp only [asT, Option.some.injEq] at e
      subst e
      exact .ftup h1 h0 hj h2
    | ktup h1 h0 q hj h2 =>
      simp only [asT, Option.some.injEq] at e
      subst e
      exact .ktup h1 h0 q hj h2
    | _ => simp [asT] at e
  | _ => simp [asT] at e
theorem owDp {Hf : Fz} {v : V} {o : O} {as : List Addr} {x : PyData} (s : Hf.on K H) (h : Ow K mg Hf H v o as) (e : o.fz = some x) : Dp K H v x := dpMono (frzOn s.same as) (owFz s.same h e)
theorem owI {Hf : Fz} {v : V} {i : Int} {as : List Addr} (h : Ow K mg Hf H v (.d (.int i)) as) : v = .int i := by cases h with | d h => cases h; rfl
theorem owS {Hf : Fz} {v : V} {i : Str} {as : List Addr} (h : Ow K mg Hf H v (.d (.str i)) as) : v = .str i := by cases h with | d h => cases h; rfl
/-- a new list of data, a new tuple of data -/
theorem Rel.mkLst {us : List V} {ys : List PyData} {p : Addr} (r : Rel K mg H Ex (us.zip (ys.map O.d) ++ rs) ws) (hl : us.length = ys.length) (hp : H p = none) : Rel K mg (upd H p (.lst us)) Ex ((.ref p, .lst (ys.map O.d)) :: rs) ws := r.newLst (by simpa using hl) hp
theorem mkTupD (ys : List PyData) : mkTup (ys.map O.d) = .d (.tuple ys) := by unfold mkTup; rw [allD_map]
theorem Rel.mkTupl {us : List V} {ys : List PyData} {Q : VK} (r : Rel K mg H Ex (us.zip (ys.map O.d) ++ rs) ws) (hl : us.length = ys.length) (k5 : ∀ v H', Same H H' → Rel K mg H' Ex ((v, .d (.tuple ys)) :: rs) ws → Q v H') : TupP H us Q :=
  r.newTup (os := ys.map O.d) (by simpa using hl) fun v H' s r' => k5 v H' s (by rwa [mkTupD] at r')
theorem dpApp {Hf : Hp} : ∀ {us vs : List V} {xs ys : List PyData}, DpAll K Hf us xs → DpAll K Hf vs ys → DpAll K Hf (us ++ vs) (xs ++ ys)
  | _, _, _, _, .nil, q => q
  | _, _, _, _, .cons a t, q => .cons a (dpApp t q)
theorem dpTake {Hf : Hp} : ∀ {us : List V} {xs : List PyData} (n : Nat), DpAll K Hf us xs → DpAll K Hf (us.take n) (xs.take n)
  | _, _, 0, _ => by simp only [List.take_zero]; exact .nil
  | _, _, n + 1, .nil => by simp only [List.take_nil]; exact .nil
  | _, _, n + 1, .cons a t => by simp only [List.take_succ_cons]; exact .cons a (dpTake n t)
theorem dpDrop {Hf : Hp} : ∀ {us : List V} {xs : List PyData} (n : Nat), DpAll K Hf us xs → DpAll K Hf (us.drop n) (xs.drop n)
  | _, _, 0, q => by simpa only [List.drop_zero] using q
  | _, _, n + 1, .nil => by simp only [List.drop_nil]; exact .nil
  | _, _, n + 1, .cons a t => by simp only [List.drop_succ_cons]; exact dpDrop n t
theorem dpGet? {Hf : Hp} : ∀ {vs : List V} {ds : List PyData} {i : Nat} {x : PyData}, DpAll K Hf vs ds → ds[i]? = some x → ∃ v, vs[i]? = some v ∧ Dp K Hf v x
  | _, _, _, _, .nil, h => by simp at h
  | _, _, 0, _, .cons a t, h => by simp only [List.getElem?_cons_zero, Option.some.injEq] at h; subst h; exact ⟨_, rfl, a⟩
  | _, _, i + 1, _, .cons a t, h => by simp only [List.getElem?_cons_succ] at h ⊢; exact dpGet? t h
def addF : List O → Option O
  | [.d (.int i), .d (.int j)] => some (.d (.int (i + j)))
  | [.d (.str i), .d (.str j)] => if lenOk (i.length + j.length) = true then some (.d (.str (i ++ j))) else none
  | [a, b] => match asL a, asL b with
    | some xs, some ys => if lenOk (xs.length + ys.length) = true then some (.lst ((xs ++ ys).map O.d)) else none
    | _, _ => match asT a, asT b with
      | some xs, some ys => if lenOk (xs.length + ys.length) = true then some (.d (.tuple (xs ++ ys))) else none
      | _, _ => none
  | _ => none
def rCatS (K : PySem.W.Frag) : R2 := fun x y H Q => ∃ l b xs zs, x = .ref l ∧ y = .ref b ∧ SqL K H l xs ∧ SqL K H b zs ∧ xs.length + zs.length ≤ sizeLine ∧ ∀ p, H p = none → Q (.ref p) (upd H p (.lst (xs ++ zs)))
open PyProof.Rows in
theorem op_catS : OpR X (binaryOp .Add) (rCatS X.K) := by
  intro pins s σ H x y v u Q I rx ry h
  obtain ⟨l, b, xs, zs, rfl, rfl, hH, hB, hz, q⟩ := h
  cases rx
  cases ry
  obtain ⟨its, r, ⟨⟨c1, d1, dt1, sl1⟩, n, e, hc, hd, hdt⟩, z⟩ := I.list hH
  obtain ⟨its2, r2, ⟨⟨c2, d2, dt2, sl2⟩, n2, e2, hc2, hd2, hdt2⟩, z2⟩ := I.list hB
  simp only at hc hdt hc2 hdt2
  subst hc hdt hc2 hdt2
  have hl := r.length
  have hl2 := r2.length
  refine concat_meets ⟨_, e, rfl⟩ ⟨_, e2, rfl⟩ noFill_list_add seq_list_add PySem.F.slot_list_add PySem.F.entry_list_add (PySem.F.args_list_add_2 _ _) (list_addW l b its.toArray its2.toArray n n2 d1 d2 sl1 sl2 (by rw [List.size_toArray, List.size_toArray]; omega)) ⟨e, e2, ?_⟩
  have ea : its.toArray ++ its2.toArray = (its ++ its2).toArray := by simp
  rw [ea]
  exact ⟨.ref _, _, I.lnew (t' := s.toks) (r.append r2) (by rw [List.length_append]; omega), rfl, q _ I.fresh⟩
/-- two tuples, one behind the other -/
def rCatE (K : PySem.W.Frag) : R2 := fun x y H Q => ∃ a b xs ys, (x = .ref a ∧ y = .ref b) ∧ (SqT K H a xs ∧ SqT K H b ys) ∧ xs.length + ys.length ≤ sizeLine ∧ (xs = [] → Q (.ref b) H) ∧ (xs ≠ [] → ys = [] → Q (.ref a) H) ∧ (xs ≠ [] → ys ≠ [] → TupP H (xs ++ ys) Q)
open PyProof.Rows in
theorem op_catE : OpR X (binaryOp .Add) (rCatE X.K) := by
  intro pins s σ H x y v u Q I rx ry h
  obtain ⟨a, b, xs, ys, ⟨ex, ey⟩, ⟨ta, tb⟩, hz, q0, q1, q2⟩ := h
  subst ex; subst ey
  cases rx; cases ry
  obtain ⟨us, r1, p1, _⟩ := I.tuple ta
  obtain ⟨ws, r2, p2, _⟩ := I.tuple tb
  by_cases hx : xs = []
  · subst hx
    cases r1
    exact cat_tup0 p1 p2 ⟨.ref b, H, I, rfl, q0 rfl⟩
  · have l1 := r1.length
    have l2 := r2.length
    refine HT.cat_tup p1 p2 (fun z => hx (r1.nil_iff.mp z)) (fun z => ⟨.ref a, H, I, rfl, q1 hx (r2.nil_iff.mp z)⟩) (fun z => ?_) (by omega)
    have e := invTup (t' := s.toks) I (r1.append r2) (by rw [List.length_append]; exact hz) (q2 hx fun w => z (r2.nil_iff.mpr w))
    exact e
def rAdd4 (K : PySem.W.Frag) : R2 := fun x y H Q => rI0 (fun i j => .int (i + j)) x y H Q ∨ (fun x y H Q => ∃ i j, x = V.str i ∧ y = V.str j ∧ i.length + j.length ≤ sizeLine ∧ Q (V.str (i ++ j)) H) x y H Q ∨ rCatS K x y H Q ∨ rCatE K x y H Q
theorem op_add4 : OpR X (binaryOp .Add) (rAdd4 X.K) := OpR.or op_add (OpR.or op_add_str (OpR.or op_catS op_catE))
theorem two {xs : List V} (h : xs.length = 2) : ∃ x y, xs = [x, y] := match xs, h with | [x, y], _ => ⟨x, y, rfl⟩
theorem one {xs : List V} (h : xs.length = 1) : ∃ x, xs = [x] := match xs, h with | [x], _ => ⟨x, rfl⟩
theorem zipHead {v : V} {o : O} {vs : List V} {os : List O} : (v, o) ∈ ((v :: vs).zip (o :: os)) ++ ws := by simp
theorem zipSnd {v u : V} {o o' : O} {vs : List V} {os : List O} : (u, o') ∈ ((v :: u :: vs).zip (o :: o' :: os)) ++ ws := by simp
theorem pr_add : PR X (r2L (rAdd4 X.K)) addF := by
  intro xs os H Ex rs ws Q o hl r hf k
  unfold addF at hf
  split at hf
  · rename_i i j
    cases hf
    obtain ⟨x, y, rfl⟩ := two hl
    obtain ⟨Hf, s, hw, cl⟩ := r.fr
    obtain ⟨_, h1⟩ := hw _ zipHead
    obtain ⟨_, h2⟩ := hw _ zipSnd
    obtain rfl := owI h1
    obtain rfl := owI h2
    exact .inl ⟨i, j, rfl, rfl, k _ _ (Same.refl _) (r.data fun _ => .int _)⟩
  · rename_i i j
    split at hf
    · rename_i hlen
      cases hf
      obtain ⟨x, y, rfl⟩ := two hl
      obtain ⟨Hf, s, hw, cl⟩ := r.fr
      obtain ⟨_, h1⟩ := hw _ zipHead
      obtain ⟨_, h2⟩ := hw _ zipSnd
      obtain rfl := owS h1
      obtain rfl := owS h2
      exact .inr (.inl ⟨i, j, rfl, rfl, lenOk_le hlen, k _ _ (Same.refl _) (r.data fun _ => .str _)⟩)
    · cases hf
  · rename_i a b _ _
    obtain ⟨x, y, rfl⟩ := two hl
    obtain ⟨Hf, s, hw, cl⟩ := r.fr
    obtain ⟨_, h1⟩ := hw _ zipHead
    obtain ⟨_, h2⟩ := hw _ zipSnd
    split at hf
    · rename_i xs ys e1 e2
      split at hf
      · rename_i hlen
        cases hf
        obtain ⟨l1, us, rfl, q1, p1⟩ := owL s h1 e1
        obtain ⟨l2, vs, rfl, q2, p2⟩ := owL s h2 e2
        have hz := lenOk_le hlen
        rw [← dpLen p1, ← dpLen p2] at hz
        refine .inr (.inr (.inl ⟨l1, l2, us, vs, rfl, rfl, q1, q2, hz, fun p hp => k _ _ (sameNew hp _) ?_⟩))
        exact (cl _ _ (dpApp p1 p2)).mkLst (dpLen (dpApp p1 p2)) hp
      · cases hf
    · split at hf
      · rename_i xs ys e1 e2
        split at hf
        · rename_i hlen
          cases hf
          obtain ⟨l1, us, rfl, q1, p1⟩ := owT s h1 e1
          obtain ⟨l2, vs, rfl, q2, p2⟩ := owT s h2 e2
          have hz := lenOk_le hlen
          have hn1 := dpLen p1
          have hn2 := dpLen p2
          rw [← hn1, ← hn2] at hz
          refine .inr (.inr (.inr ⟨l1, l2, us, vs, ⟨rfl, rfl⟩, ⟨q1, q2⟩, hz, fun z => ?_, fun z1 z2 => ?_, fun _ _ => ?_⟩))
          · subst z
            have e : xs = [] := List.length_eq_zero_iff.mp hn1.symm
            subst e
            refine k _ _ (Same.refl _) ?_
            have := cl [.ref l2] [.tuple ys] (.cons (owTD h2 e2) .nil)
            exact this
          · subst z2
            have e : ys = [] := List.length_eq_zero_iff.mp hn2.symm
            subst e
            simp only [List.append_nil] at k
            refine k _ _ (Same.refl _) ?_
            have := cl [.ref l1] [.tuple xs] (.cons (owTD h1 e1) .nil)
            exact this
          · exact (cl _ _ (dpApp p1 p2)).mkTupl (dpLen (dpApp p1 p2)) fun v H' s' r' => k v H' s' r'
        · cases hf
      · cases hf
  · cases hf
end
end Z
namespace Z
open PySem PySem.Spec L2
section
variable {K : PySem.W.Frag} {mg : Str → Option Value} {H H' : Hp} {Ex : List (Addr × HO)} {T ws rs : Roots} {X : Cx}
def i2F (c : Int → Int → Bool) (f : Int → Int → PyData) : List O → Option O
  | [.d (.int i), .d (.int j)] => if c i j = true then some (.d (f i j)) else none
  | _ => none
theorem pr_i2 {C : Int → Int → Prop} {gv : Int → Int → V} {c : Int → Int → Bool} {f : Int → Int → PyData} (hc : ∀ i j, c i j = true → C i j) (hd : ∀ i j Hf, Dp X.K Hf (gv i j) (f i j)) : PR X (r2L (rI C gv)) (i2F c f) := by
  intro xs os H Ex rs ws Q o hl r hf k
  unfold i2F at hf
  split at hf
  · rename_i i j
    split at hf
    · rename_i hcc
      cases hf
      obtain ⟨x, y, rfl⟩ := two hl
      obtain ⟨Hf, s, hw, cl⟩ := r.fr
      obtain ⟨_, h1⟩ := hw _ zipHead
      obtain ⟨_, h2⟩ := hw _ zipSnd
      obtain rfl := owI h1
      obtain rfl := owI h2
      exact ⟨i, j, rfl, rfl, hc i j hcc, k _ _ (Same.refl _) (r.data (hd i j))⟩
    · cases hf
  · cases hf
theorem pr_i20 {gv : Int → Int → V} {f : Int → Int → PyData} (hd : ∀ i j Hf, Dp X.K Hf (gv i j) (f i j)) : PR X (r2L (rI0 gv)) (i2F (fun _ _ => true) f) := by
  intro xs os H Ex rs ws Q o hl r hf k
  unfold i2F at hf
  split at hf
  · rename_i i j
    simp only [if_true] at hf
    cases hf
    obtain ⟨x, y, rfl⟩ := two hl
    obtain ⟨Hf, s, hw, cl⟩ := r.fr
    obtain ⟨_, h1⟩ := hw _ zipHead
    obtain ⟨_, h2⟩ := hw _ zipSnd
    obtain rfl := owI h1
    obtain rfl := owI h2
    exact ⟨i, j, rfl, rfl, k _ _ (Same.refl _) (r.data (hd i j))⟩
  · cases hf
def subF : List O → Option O := i2F (fun _ _ => true) fun i j => .int (i - j)
def mulC (i j : Int) : Bool := (decide (-18446744073709551616 < i) && decide (i < 18446744073709551616)) || (decide (-18446744073709551616 < j) && decide (j < 18446744073709551616))
def mulF : List O → Option O := i2F mulC fun i j => .int (i * j)
def divF : List O → Option O := i2F (fun _ j => decide (0 < j) && decide (j < 18446744073709551616)) fun i j => .int (i / j)
def modF : List O → Option O := i2F (fun _ j => decide (0 < j)) fun i j => .int (i % j)
def powC (i j : Int) : Bool := decide (0 ≤ j) && decide (j ≤ 1000000) && decide (i.natAbs < 18446744073709551616)
def powF : List O → Option O := i2F powC fun i j => .int (i ^ j.toNat)
def ltF : List O → Option O := i2F (fun _ _ => true) fun i j => .bool (decide (i < j))
def leF : List O → Option O := i2F (fun _ _ => true) fun i j => .bool (decide (i ≤ j))
def gtF : List O → Option O := i2F (fun _ _ => true) fun i j => .bool (decide (j < i))
def geF : List O → Option O := i2F (fun _ _ => true) fun i j => .bool (decide (j ≤ i))
theorem pr_lt : PR X (r2L (rI0 fun i j => .bl (decide (i < j)))) ltF := pr_i20 fun _ _ _ => .bl _
theorem pr_gt : PR X (r2L (rI0 fun i j => .bl (decide (j < i)))) gtF := pr_i20 fun _ _ _ => .bl _
theorem pr_mul : PR X (r2L (rI CMul fun i j => .int (i * j))) mulF := pr_i2 (fun i j h => by
  unfold mulC at h
  simp only [Bool.or_eq_true, Bool.and_eq_true, decide_eq_true_eq] at h
  unfold CMul
  rcases h with h | h
  · exact .inl ⟨by omega, by omega⟩
  · exact .inr ⟨by omega, by omega⟩) fun _ _ _ => .int _
theorem pr_div : PR X (r2L (rI CDivW fun i j => .int (i / j))) divF := pr_i2 (fun i j h => by
  simp only [Bool.and_eq_true, decide_eq_true_eq] at h
  exact wide_div (b := 64) h.1 (by have := h.2; omega) (by decide) (by decide)) fun _ _ _ => .int _
theorem pr_mod : PR X (r2L (rI (fun _ j => 0 < j) fun i j => .int (i % j))) modF := pr_i2 (fun i j h => of_decide_eq_true h) fun _ _ _ => .int _
theorem powC_ok {i j : Int} (h : powC i j = true) : CPow i j := by
  unfold powC at h
  simp only [Bool.and_eq_true, decide_eq_true_eq] at h
  exact ⟨h.1.1, h.1.2, by have := h.2; omega⟩
theorem pr_pow : PR X (r2L (rI CPow fun i j => .int (i ^ j.toNat))) powF := pr_i2 (fun i j h => powC_ok h) fun _ _ _ => .int _
def negF : List O → Option O
  | [.d (.int i)] => some (.d (.int (-i)))
  | _ => none
def eqB (a b : O) : Option Bool := match a.fz, b.fz with
  | some (.str x), some (.str y) => some (x == y)
  | some d, some e => if SeqAt.shaped d = true ∧ SeqAt.shaped e = true then some (PyData.eqv d e) else none
  | _, _ => none
def eqF : List O → Option O
  | [a, b] => match eqB a b with | some k => some (.d (.bool k)) | none => none
  | _ => none
def neF : List O → Option O
  | [a, b] => match eqB a b with | some k => some (.d (.bool (!k))) | none => none
  | _ => none
def rEq2 (K : PySem.W.Frag) : R2 := fun x y H Q => rEq x y H Q ∨ rEqD K x y H Q
def rNe2 (K : PySem.W.Frag) : R2 := fun x y H Q => rNe x y H Q ∨ rNeD K x y H Q
theorem op_eq2 (hu : X.A.units + 64 < cLine) : OpR X (compareOp .Eq) (rEq2 X.K) := OpR.or op_eq (op_eqD hu)
theorem op_ne2 (hu : X.A.units + 64 < cLine) : OpR X (compareOp .NotEq) (rNe2 X.K) := OpR.or op_ne (op_neD hu)
theorem eqB_ok {Hf : Fz} {x y : V} {a b : O} {as bs : List Addr} {k : Bool} (s : Hf.on K H) (h1 : Ow K mg Hf H x a as) (h2 : Ow K mg Hf H y b bs) (e : eqB a b = some k) :
    (∃ u v, x = .str u ∧ y = .str v ∧ k = (u == v)) ∨ ∃ d e, L2.Dp K H x d ∧ L2.Dp K H y e ∧ SeqAt.shaped d = true ∧ SeqAt.shaped e = true ∧ k = PyData.eqv d e := by
  unfold eqB at e
  split at e
  · rename_i u v e1 e2
    cases e
    have d1 := owDp s h1 e1
    have d2 := owDp s h2 e2
    cases d1; cases d2
    exact .inl ⟨u, v, rfl, rfl, rfl⟩
  · rename_i d e' _ e1 e2
    split at e
    · rename_i hs
      cases e
      exact .inr ⟨d, e', dpTo (owDp s h1 e1), dpTo (owDp s h2 e2), hs.1, hs.2, rfl⟩
    · cases e
  · cases e
theorem pr_eq : PR X (r2L (rEq2 X.K)) eqF := by
  intro xs os H Ex rs ws Q o hl r hf k
  unfold eqF at hf
  split at hf
  · rename_i a b
    cases q : eqB a b with
    | none => rw [q] at hf; cases hf
    | some kk =>
      rw [q] at hf
      cases hf
      obtain ⟨x, y, rfl⟩ := two hl
      obtain ⟨Hf, s, hw, cl⟩ := r.fr
      obtain ⟨_, h1⟩ := hw _ zipHead
      obtain ⟨_, h2⟩ := hw _ zipSnd
      have fin := k (.bl kk) _ (Same.refl _) (r.data fun _ => .bl _)
      rcases eqB_ok s h1 h2 q with ⟨u, v, e1, e2, e3⟩ | ⟨d, e, d1, d2, s1, s2, e3⟩
      · simp only at e1 e2
        subst e1; subst e2; subst e3
        refine .inl ⟨rfl, ?_⟩
        rw [dec_str]
        exact fin
      · subst e3
        exact .inr ⟨d, e, d1, d2, s1, s2, fin⟩
  · cases hf
theorem pr_ne : PR X (r2L (rNe2 X.K)) neF := by
  intro xs os H Ex rs ws Q o hl r hf k
  unfold neF at hf
  split at hf
  · rename_i a b
    cases q : eqB a b with
    | none => rw [q] at hf; cases hf
    | some kk =>
      rw [q] at hf
      cases hf
      obtain ⟨x, y, rfl⟩ := two hl
      obtain ⟨Hf, s, hw, cl⟩ := r.fr
      obtain ⟨_, h1⟩ := hw _ zipHead
      obtain ⟨_, h2⟩ := hw _ zipSnd
      have fin := k (.bl (!kk)) _ (Same.refl _) (r.data fun _ => .bl _)
      rcases eqB_ok s h1 h2 q with ⟨u, v, e1, e2, e3⟩ | ⟨d, e, d1, d2, s1, s2, e3⟩
      · simp only at e1 e2
        subst e1; subst e2; subst e3
        refine .inl ⟨rfl, ?_⟩
        rw [dec_str]
        exact fin
      · subst e3
        exact .inr ⟨d, e, d1, d2, s1, s2, fin⟩
  · cases hf
def flatD : PyData → Bool
  | .none => true | .bool _ => true | .int _ => true | .str _ => true | _ => false
theorem flat_of {Hf : Hp} {v : V} {d : PyData} (h : Dp K Hf v d) (f : flatD d = true) : flatV v = true := by cases h <;> first | rfl | simp [flatD] at f
theorem flatAll_of {Hf : Hp} : ∀ {vs : List V} {ds : List PyData}, DpAll K Hf vs ds → ds.all flatD = true → vs.all flatV = true
  | _, _, .nil, _ => rfl
  | _, _, .cons a t, f => by
    simp only [List.all_cons, Bool.and_eq_true] at f ⊢
    exact ⟨flat_of a f.1, flatAll_of t f.2⟩
theorem eqV_of {Hf : Hp} {v u : V} {d e : PyData} (h : Dp K Hf v d) (h2 : Dp K Hf u e) (f : flatD d = true) (f2 : flatD e = true) : eqV v u = PyData.eqv d e := by
  cases h <;> cases h2 <;> first | (simp [flatD] at f; done) | (simp [flatD] at f2; done) | simp [eqV, PyData.eqv]
theorem inV_of {Hf : Hp} {u : V} {e : PyData} (h2 : Dp K Hf u e) (f2 : flatD e = true) : ∀ {vs : List V} {ds : List PyData}, DpAll K Hf vs ds → ds.all flatD = true → inV u vs = ds.any fun z => PyData.eqv z e
  | _, _, .nil, _ => rfl
  | _, _, .cons a t, f => by
    simp only [List.all_cons, Bool.and_eq_true] at f
    have ih := inV_of h2 f2 t f.2
    unfold inV at ih ⊢
    simp only [List.any_cons, ih, eqV_of a h2 f.1 f2]
def asLT (o : O) : Option (List PyData) := match asL o with
  | some ds => some ds
  | none => match o with
    | .gL ds => some ds
    | .gT ds => some ds
    | o => asT o
def inB (a b : O) : Option Bool := match a, b with
  | .d (.str x), .d (.str z) => match x.cps.toList with
    | [c] => some (decide (c ∈ z.cps.toList))
    | _ => none
  | .d e, b => match asLT b with
    | some ds => if flatD e = true ∧ ds.all flatD = true then some (ds.any fun z => PyData.eqv z e) else none
    | none => none
  | _, _ => none
def rInS (neg : Bool) : R2 := fun x y H Q => ∃ (c : Nat) (z : Str), x = .str ⟨#[c]⟩ ∧ y = .str z ∧ Q (.bl (if neg then !decide (c ∈ z.cps.toList) else decide (c ∈ z.cps.toList))) H
def rIn2 (K : PySem.W.Frag) (neg : Bool) : R2 := fun x y H Q => rInS neg x y H Q ∨ rIn K neg x y H Q
theorem op_in2 : OpR X (compareOp .In) (rIn2 X.K false) := OpR.or op_in_sign op_in_seq
def inF (neg : Bool) : List O → Option O
  | [a, b] => match inB a b with | some k => some (.d (.bool (if neg then !k else k))) | none => none
  | _ => none
theorem owLTseq {Hf : Fz} {v : V} {o : O} {as : List Addr} {ds : List PyData} (s : Hf.on K H) (h : Ow K mg Hf H v o as) (e : asLT o = some ds) : ∃ a vs, v = .ref a ∧ (SqL K H a vs ∨ SqT K H a vs) ∧ DpAll K Hf.h vs ds := by
  unfold asLT at e
  split at e
  · rename_i ds' e1
    cases e
    obtain ⟨a, vs, e2, q, p⟩ := owL s h e1
    exact ⟨a, vs, e2, .inl q, p⟩
  · split at e
    · cases e
      cases h with
      | gL q p => exact ⟨_, _, rfl, .inl (s.seq q), p⟩
    · cases e
      cases h with
      | gT q p => exact ⟨_, _, rfl, .inr (sameT s.same q), p⟩
    · obtain ⟨a, vs, e2, q, p⟩ := owT s h e
      exact ⟨a, vs, e2, .inr q, p⟩
theorem str1 {x : Str} {c : Nat} (h : x.cps.toList = [c]) : x = ⟨#[c]⟩ := by
  obtain ⟨cs⟩ := x
  have : cs = #[c] := by
    apply Array.toList_inj.mp
    simpa using h
  rw [this]
theorem pr_in {neg : Bool} : PR X (r2L (rIn2 X.K neg)) (inF neg) := by
  intro xs os H Ex rs ws Q o hl r hf k
  unfold inF at hf
  split at hf
  · rename_i a b
    cases q : inB a b with
    | none => rw [q] at hf; cases hf
    | some kk =>
      rw [q] at hf
      cases hf
      obtain ⟨x, y, rfl⟩ := two hl
      obtain ⟨Hf, s, hw, cl⟩ := r.fr
      obtain ⟨_, h1⟩ := hw _ zipHead
      obtain ⟨_, h2⟩ := hw _ zipSnd
      have fin := k (.bl (if neg then !kk else kk)) _ (Same.refl _) (r.data fun _ => .bl _)
      unfold inB at q
      split at q
      · rename_i u z
        split at q
        · rename_i c hc
          cases q
          have e1 := owS h1
          have e2 := owS h2
          simp only at e1 e2
          subst e1; subst e2
          exact .inl ⟨c, z, by rw [str1 hc], rfl, fin⟩
        · cases q
      · rename_i e b' _
        split at q
        · rename_i ds e1
          split at q
          · rename_i hfl
            cases q
            obtain ⟨ad, vs, e2, sq, p⟩ := owLTseq s h2 e1
            simp only at e2
            subst e2
            cases h1 with
            | d h1 =>
              refine .inr ⟨ad, vs, rfl, sq, flat_of h1 hfl.1, flatAll_of p hfl.2, ?_⟩
              rw [inV_of h1 hfl.1 p hfl.2]
              exact fin
          · cases q
        · cases q
      · cases q
  · cases hf
def ixF : List O → Option O
  | [.d (.str z), .d (.int i)] => if lenOk z.length = true then match atI z.cps.toList i with
      | some c => some (.d (.str ⟨#[c]⟩))
      | none => none else none
  | [a, .d (.int i)] => match asLT a with
    | some ds => match atI ds i with
      | some x => some (.d x)
      | none => none
    | none => none
  | _ => none
theorem atI_dp {Hf : Hp} {vs : List V} {ds : List PyData} {i : Int} {x : PyData} (h : DpAll K Hf vs ds) (e : atI ds i = some x) : ∃ v, atI vs i = some v ∧ Dp K Hf v x := by
  unfold atI at e ⊢
  rw [dpLen h]
  cases q : ixN ds.length i with
  | none => rw [q] at e; cases e
  | some j =>
    rw [q] at e
    simp only [Option.bind_some] at e ⊢
    exact dpGet? h e
theorem pr_ix : PR X (r2L (rIx X.K)) ixF := by
  intro xs os H Ex rs ws Q o hl r hf k
  unfold ixF at hf
  split at hf
  · rename_i z i
    split at hf
    · rename_i hlen
      split at hf
      · rename_i c hc
        cases hf
        obtain ⟨x, y, rfl⟩ := two hl
        obtain ⟨Hf, s, hw, cl⟩ := r.fr
        obtain ⟨_, h1⟩ := hw _ zipHead
        obtain ⟨_, h2⟩ := hw _ zipSnd
        obtain rfl := owS h1
        obtain rfl := owI h2
        exact .inr (.inr ⟨z, i, c, rfl, rfl, lenOk_le hlen, hc, k _ _ (Same.refl _) (r.data fun _ => .str _)⟩)
      · cases hf
    · cases hf
  · rename_i a i _
    split at hf
    · rename_i ds e1
      split at hf
      · rename_i y e2
        cases hf
        obtain ⟨x, y, rfl⟩ := two hl
        obtain ⟨Hf, s, hw, cl⟩ := r.fr
        obtain ⟨_, h1⟩ := hw _ zipHead
        obtain ⟨_, h2⟩ := hw _ zipSnd
        obtain rfl := owI h2
        obtain ⟨ad, vs, e3, sq, p⟩ := owLTseq s h1 e1
        simp only at e3
        subst e3
        obtain ⟨v, e4, dv⟩ := atI_dp p e2
        have fin := k v _ (Same.refl _) (cl [v] _ (.cons dv .nil))
        rcases sq with sq | sq
        · exact .inl ⟨ad, vs, i, v, rfl, rfl, sq, e4, fin⟩
        · exact .inr (.inl ⟨ad, vs, i, v, rfl, rfl, sq, e4, fin⟩)
      · cases hf
    · cases hf
  · cases hf
end
end Z
namespace Z
open PySem PySem.Spec L2
section
variable {X : Cx} {W : WX} {pu pv pw : Bool} {H H' : Hp} {Ex : List (Addr × HO)} {σ σ' : L2.St} {g : Gs} {T T' ws ws' rs : Roots} {e a b o lo hi : Expr} {es : List Expr} {m : M O} {ms : M (List O)} {pos p p2 apos : Pos} {k j np : Nat} {x : Str}
theorem ev_ix {r : R2} {f : List O → Option O} (hr : IxR X r) (pr : PR X (r2L r) f) (h : EvAs X W pu [a, b] ms) (hs : PlainIx b := by exact fun _ _ => rfl) : Ev X W pu (.Subscript a b pos) (opM f ms) := by
  obtain ⟨ts, g1, g2⟩ := h.ex
  cases g1 with
  | cons p1 _ g1 =>
    cases g1 with
    | cons p2 _ g1 =>
      cases g1
      exact ⟨_, pe_ix hr p1 p2 hs, opCore pr g2⟩
/-- a slice of a tuple; the whole of it is the tuple itself -/
def rSlE (K : PySem.W.Frag) : V → Option Int → Option Int → Hp → VK → Prop := fun x lo hi H Q => ∃ a xs, x = .ref a ∧ SqT K H a xs ∧ ((HT.sIx xs.length 0 lo = 0 ∧ HT.sIx xs.length xs.length hi = xs.length) → Q (.ref a) H) ∧
  (¬ (HT.sIx xs.length 0 lo = 0 ∧ HT.sIx xs.length xs.length hi = xs.length) → TupP H (cutV xs lo hi) Q)
open PyProof.Rows in
theorem sl_tupE : SlR X (rSlE X.K) := by
  intro pins s σ H x v vl vu lo hi sl Q I rx hs pl pu h
  obtain ⟨a, xs, ex, ta, w1, w2⟩ := h
  subst ex
  cases rx
  obtain ⟨us, r, tt, hz⟩ := I.tuple ta
  have eu : us.toArray.size = xs.length := by rw [List.size_toArray, r.length]
  refine ⟨"tuple", _, slot_tuple_getitem.lookup, tt.typeIs, ?_⟩
  by_cases hw : HT.sIx xs.length 0 lo = 0 ∧ HT.sIx xs.length xs.length hi = xs.length
  · exact getItem_tuple_whole tt hs pl pu (by rw [eu]; exact hw) ⟨.ref a, H, I, rfl, w1 hw⟩
  · refine HT.getItem_tuple_cut tt hs pl pu (by rw [eu]; exact hw) ?_ (by rw [eu]; exact hz)
    rw [eu]
    have r2 := (r.drop (HT.sIx xs.length 0 lo)).take (HT.sIx xs.length xs.length hi - HT.sIx xs.length 0 lo)
    exact invTup (t' := s.toks) I r2 (Nat.le_trans (cutV_length xs lo hi) hz) (w2 hw)
def rSlAll (K : PySem.W.Frag) : V → Option Int → Option Int → Hp → VK → Prop := fun x lo hi H Q => rSlL K x lo hi H Q ∨ rSlE K x lo hi H Q ∨ rSlS x lo hi H Q
theorem sl_all : SlR X (rSlAll X.K) := SlR.or sl_list (SlR.or sl_tupE sl_str)
def cutD {α : Type} (xs : List α) (lo hi : Option Int) : List α := (xs.drop (HT.sIx xs.length 0 lo)).take (HT.sIx xs.length xs.length hi - HT.sIx xs.length 0 lo)
def slB (o : O) (lo hi : Option Int) : Option O := match o with
  | .d (.str z) => if lenOk z.length = true then some (.d (.str (cutS z lo hi))) else none
  | o => match asL o with
    | some ds => some (.lst ((cutD ds lo hi).map O.d))
    | none => match asT o with
      | some ds => some (.d (.tuple (cutD ds lo hi)))
      | none => none
theorem cut_dp {K : PySem.W.Frag} {Hf : Hp} {vs : List V} {ds : List PyData} (h : DpAll K Hf vs ds) (lo hi : Option Int) : DpAll K Hf (cutV vs lo hi) (cutD ds lo hi) := by
  unfold cutV cutD
  rw [dpLen h]
  exact dpTake _ (dpDrop _ h)
theorem slB_ok {v : V} {o o' : O} {lo hi : Option Int} {Q : VK} (r : Rel X.K X.mg H Ex rs ws) (hv : (v, o) ∈ ws) (e : slB o lo hi = some o') (k : ∀ v H', Same H H' → Rel X.K X.mg H' Ex ((v, o') :: rs) ws → Q v H') : rSlAll X.K v lo hi H Q := by
  obtain ⟨Hf, s, hw, cl⟩ := r.fr
  obtain ⟨_, h1⟩ := hw _ hv
  unfold slB at e
  split at e
  · rename_i z
    split at e
    · rename_i hl
      cases e
      obtain rfl := owS h1
      exact .inr (.inr ⟨z, rfl, lenOk_le hl, k _ _ (Same.refl _) (r.data fun _ => .str _)⟩)
    · cases e
  · rename_i o _
    split at e
    · rename_i ds e1
      cases e
      obtain ⟨ad, vs, e2, sq, pp⟩ := owL s h1 e1
      simp only at e2
      subst e2
      refine .inl ⟨ad, vs, rfl, sq, fun q hq => k _ _ (sameNew hq _) ?_⟩
      exact (cl _ _ (cut_dp pp lo hi)).mkLst (dpLen (cut_dp pp lo hi)) hq
    · split at e
      · rename_i ds e1
        cases e
        have hD := owTD h1 e1
        obtain ⟨ad, vs, e2, sq, pp⟩ := owT s h1 e1
        simp only at e2
        subst e2
        refine .inr (.inl ⟨ad, vs, rfl, sq, fun hwhole => k _ _ (Same.refl _) ?_, fun _ => ?_⟩)
        · have e3 : cutD ds lo hi = ds := by
            unfold cutD
            rw [dpLen pp] at hwhole
            rw [hwhole.1, hwhole.2, List.drop_zero, Nat.sub_zero, List.take_length]
          rw [e3]
          exact cl [_] [_] (.cons hD .nil)
        · exact (cl _ _ (cut_dp pp lo hi)).mkTupl (dpLen (cut_dp pp lo hi)) fun v H' s' r' => k v H' s' r'
      · cases e
def slF (l h : Bool) : List O → Option O
  | [a] => if l = false ∧ h = false then slB a none none else none
  | [a, .d (.int i)] => if l = true ∧ h = false then slB a (some i) none else if l = false ∧ h = true then slB a none (some i) else none
  | [a, .d (.int i), .d (.int j)] => if l = true ∧ h = true then slB a (some i) (some j) else none
  | _ => none
theorem ev_slLo (h : EvAs X W pu [a, lo] ms) : Ev X W pu (.Subscript a (.Slice (some lo) none none p2) pos) (opM (slF true false) ms) := by
  obtain ⟨ts, g1, g2⟩ := h.ex
  cases g1 with
  | cons p1 _ g1 =>
    cases g1 with
    | cons p2 _ g1 =>
      cases g1
      refine ⟨_, pe_slice sl_all p1 (po_some p2) po_none, opCore (r := fun xs H Q => match xs with | [x, y] => ∃ i, y = V.int i ∧ rSlAll X.K x (some i) none H Q | _ => False) (fun xs os H Ex rs ws Q o hl r hf kk => ?_) g2⟩
      unfold slF at hf
      split at hf
      · simp at hf
      · rename_i a i
        simp only [and_self, if_true] at hf
        obtain ⟨x, y, rfl⟩ := two hl
        obtain ⟨Hf, s, hw, cl⟩ := r.fr
        obtain ⟨_, h2⟩ := hw _ zipSnd
        exact ⟨i, owI h2, slB_ok r zipHead hf kk⟩
      · simp at hf
      · cases hf
theorem ev_slHi (h : EvAs X W pu [a, hi] ms) : Ev X W pu (.Subscript a (.Slice none (some hi) none p2) pos) (opM (slF false true) ms) := by
  obtain ⟨ts, g1, g2⟩ := h.ex
  cases g1 with
  | cons p1 _ g1 =>
    cases g1 with
    | cons p2 _ g1 =>
      cases g1
      refine ⟨_, pe_slice sl_all p1 po_none (po_some p2), opCore (r := fun xs H Q => match xs with | [x, y] => ∃ i, y = V.int i ∧ rSlAll X.K x none (some i) H Q | _ => False) (fun xs os H Ex rs ws Q o hl r hf kk => ?_) g2⟩
      unfold slF at hf
      split at hf
      · simp at hf
      · rename_i a i
        simp at hf
        obtain ⟨x, y, rfl⟩ := two hl
        obtain ⟨Hf, s, hw, cl⟩ := r.fr
        obtain ⟨_, h2⟩ := hw _ zipSnd
        exact ⟨i, owI h2, slB_ok r zipHead hf kk⟩
      · simp at hf
      · cases hf
def asI : O → M Int := fun o g => match o with
  | .d (.int b) => .ok b g
  | _ => .bad
theorem wpI {o : O} {g : Gs} {A : Int → Gs → Prop} {B : Exn → Gs → Prop} (h : Wp (asI o g) A B) : ∃ b, o = .d (.int b) ∧ A b g := by
  unfold asI at h
  split at h
  · exact ⟨_, rfl, h⟩
  · exact h.elim
def optM (o : Option O) : M O := fun g => match o with
  | some r => .ok r g
  | none => .bad
theorem wpOpt {o : Option O} {g : Gs} {A : O → Gs → Prop} {B : Exn → Gs → Prop} (h : Wp (optM o g) A B) : ∃ b, o = some b ∧ A b g := by
  unfold optM at h
  split at h
  · exact ⟨_, rfl, h⟩
  · exact h.elim
def slLhM (ma ml mh : M O) : M O := M.bd ma fun o => M.bd ml fun oi => M.bd (asI oi) fun i => M.bd mh fun oj => M.bd (asI oj) fun j => optM (slB o (some i) (some j))
theorem ev_bi {id : String} {r : List V → Hp → VK → Prop} {f : List O → Option O} (hc : CallR X (.builtin id) r) (pr : PR X r f) (hm : X.mg x = none) (hv : bootBuiltins x = some (.builtin id)) (h : EvAs X W pu (e :: es) ms) (hg : Gl X x := by rfl)
    (hn : x ≠ "__name__" := by decide) (hdb : (x == ("__debug__" : Str)) = false := by decide) (he : starEach (e :: es) X.env = (false, eval e X.env) :: starEach es X.env := by rfl) (hpl : (backTo pos (starEach es X.env)).any (·.1) = false := by rfl) : Ev X W pu (.Call (.Name x p) (e :: es) [] pos) (opM f ms) := by
  obtain ⟨ts, g1, g2⟩ := h.ex
  exact ⟨_, pe_callB hc hg hm hv g1.pa hn hdb he hpl, opCore pr g2⟩
/-- len -/
def lenB : O → Option Nat
  | .d (.str z) => if lenOk z.length = true then some z.length else none
  | .d (.list ds) => some ds.length
  | .d (.tuple ds) => some ds.length
  | .lst os => some os.length
  | .gL ds => some ds.length
  | .gT ds => some ds.length
  | _ => none
def lenF : List O → Option O
  | [a] => match lenB a with | some n => some (.d (.int (n : Nat))) | none => none
  | _ => none
theorem pr_len : PR X (fun xs H Q => ∃ x n, xs = [x] ∧ LenV X.K x H n ∧ Q (.int n) H) lenF := by
  intro xs os H Ex rs ws Q o hl r hf kk
  unfold lenF at hf
  split at hf
  · rename_i a
    obtain ⟨x, rfl⟩ := one hl
    obtain ⟨Hf, s, hw, cl⟩ := r.fr
    obtain ⟨_, h1⟩ := hw _ zipHead
    simp only at h1
    split at hf
    · rename_i n hn
      cases hf
      have fin := kk (.int n) _ (Same.refl _) (r.data fun _ => .int _)
      refine ⟨x, n, rfl, ?_, fin⟩
      unfold lenB at hn
      split at hn
      · rename_i z
        split at hn
        · rename_i hz
          cases hn
          obtain rfl := owS h1
          exact ⟨lenOk_le hz, rfl⟩
        · cases hn
      · cases hn
        cases h1 with
        | d h1 => cases h1 with | lst q t => exact .inl ⟨_, SqL.of (s _ _ q), (dpLen t).symm⟩
      · cases hn
        cases h1 with
        | d h1 =>
          obtain ⟨a, vs, e, q, t⟩ := dpTup h1
          cases e
          exact .inr ⟨_, sameT s.same q, (dpLen t).symm⟩
      · cases hn
        cases h1 with
        | lst q t => exact .inl ⟨_, SqL.of q, (owLLen t).symm⟩
      · cases hn
        cases h1 with
        | gL q t => exact .inl ⟨_, s.seq q, (dpLen t).symm⟩
      · cases hn
        cases h1 with
        | gT q t => exact .inr ⟨_, sameT s.same q, (dpLen t).symm⟩
      · cases hn
    · cases hf
  · cases hf
/-- min, max of two ints -/
def max2F : List O → Option O := i2F (fun _ _ => true) fun i j => .int (if j > i then j else i)
def min2F : List O → Option O := i2F (fun _ _ => true) fun i j => .int (if j < i then j else i)
def strsOf : List PyData → Option (List Str)
  | [] => some []
  | .str i :: r => match strsOf r with | some l => some (i :: l) | none => none
  | _ => none
theorem strsOf_ok {K : PySem.W.Frag} {Hf : Hp} : ∀ {ds : List PyData} {ns : List Str} {vs : List V}, strsOf ds = some ns → DpAll K Hf vs ds → vs = ns.map V.str
  | [], ns, _, h, .nil => by simp only [strsOf, Option.some.injEq] at h; subst h; rfl
  | d :: r, ns, _, h, .cons a t => by
    cases d with
    | str i =>
      simp only [strsOf] at h
      cases q : strsOf r with
      | none => rw [q] at h; cases h
      | some l => rw [q] at h; cases h; cases a; rw [strsOf_ok q t]; rfl
    | _ => simp [strsOf] at h
def tyN : O → String
  | .d .none => "NoneType"
  | .d (.bool _) => "bool"
  | .d (.int _) => "int"
  | .d (.str _) => "str"
  | .d (.list _) => "list"
  | .d (.tuple _) => "tuple"
  | .lst _ => "list"
  | .dK _ => "dict"
  | .dT _ => "dict"
  | _ => ""
def isiM (n : String) (m : M O) : M O := M.bd m fun o g => if tyN o = "" then .bad else match kitB (tyN o) n with
  | some k => .ok (.d (.bool k)) g
  | none => .bad
end
end Z
namespace Z
open PySem PySem.Spec L2
section
variable {X : Cx} {W : WX} {pu pv pw : Bool} {H H' : Hp} {Ex : List (Addr × HO)} {σ σ' : L2.St} {g : Gs} {T T' ws ws' rs : Roots} {e a b o lo hi : Expr} {es : List Expr} {m : M O} {ms : M (List O)} {pos p p2 apos : Pos} {k j np : Nat} {x : Str}
def asS : O → M Str := fun o g => match o with
  | .d (.str b) => .ok b g
  | _ => .bad
theorem wpS {o : O} {g : Gs} {A : Str → Gs → Prop} {B : Exn → Gs → Prop} (h : Wp (asS o g) A B) : ∃ b, o = .d (.str b) ∧ A b g := by
  unfold asS at h
  split at h
  · exact ⟨_, rfl, h⟩
  · exact h.elim
theorem Rel.isS {K : PySem.W.Frag} {mg : Str → Option Value} {v : V} {i : Str} (r : Rel K mg H Ex ((v, .d (.str i)) :: rs) ws) : v = .str i := by
  obtain ⟨Hf, s, h, _⟩ := r.headDp
  cases h; rfl
def joinB (s : Str) (o : O) : Option O := match (match asLT o with | some ds => strsOf ds | none => none) with
  | some ys => if lenOk ((ys.map (·.length)).sum + ys.length * s.length) = true then some (.d (.str (Txt.join s ys))) else none
  | none => none
def joinM (mo ma : M O) : M O := M.bd mo fun o => M.bd (asS o) fun s => M.bd ma fun x => optM (joinB s x)
theorem ev_join {ma : M O} (ho : Ev X W pu o m) (ha : EvP X W pv a ma) (hs : starEach [a] X.env = [(false, eval a X.env)] := by rfl) (hbase : attributeBase o "join" X.env (eval o X.env) = eval o X.env := by rfl) (hline : (apos.endLine == pos.line) = true := by rfl) :
    Ev X W (pu && pv) (.Call (.Attribute o "join" apos) [a] [] pos) (joinM m ma) := by
  obtain ⟨to, o1, o2⟩ := ho.ex
  obtain ⟨ta, a1, a2⟩ := ha.ex
  refine ⟨_, pe_join o1 a1 hs hbase hline, fun σ H Q g T Ex ws a w => ?_⟩
  refine o2 σ H _ g T Ex ws a (w.bd.imp (fun o g1 kk v H1 s1 b1 => ?_) fun _ _ kk => kk)
  obtain ⟨z, rfl, k1⟩ := wpS kk.bd
  obtain rfl := b1.top.isS
  refine ⟨⟨z, rfl⟩, ?_⟩
  refine a2 σ H1 _ g1 _ Ex _ b1.drop (k1.bd.imp (fun ox g2 kk u H2 s2 b2 => ?_) fun x g2 kk H' cls d a2 e => kk H' cls d a2 e)
  obtain ⟨r, hr, k2⟩ := wpOpt kk
  unfold joinB at hr
  split at hr
  · rename_i ys e0
    split at hr
    · rename_i hl
      cases hr
      split at e0
      · rename_i ds e1
        obtain ⟨Hf, sm, hw, cl⟩ := b2.rel.fr
        obtain ⟨_, h1⟩ := hw _ List.mem_cons_self
        obtain ⟨ad, vs, e3, sq, pp⟩ := owLTseq sm h1 e1
        simp only at e3
        subst e3
        obtain rfl := strsOf_ok e0 pp
        refine ⟨z, ad, ys, rfl, rfl, sq, of_decide_eq_true hl, k2 _ H2 (purTr s1 s2) ((b2.data fun _ => .str _).views fun p m => List.mem_cons_of_mem _ (by rw [vsVs]; exact m))⟩
      · cases e0
    · cases hr
  · cases hr
def upM (mo : M O) : M O := M.bd mo fun o => M.bd (asS o) fun s => gdM (decide (s.length ≤ 5592405)) (M.ret (.d (.str (Txt.upper s))))
def appM (i : Nat) (m : M O) : M O := M.bd m fun o g => match g[i]? with
  | some (some (.lst os)) => if os.length < 16777216 then .ok (.d .none) (g.set i (some (.lst (os ++ [o])))) else .bad
  | _ => .bad
def appLM (i : Nat) (m : M O) : M O := fun g => match g[i]? with
  | some (some (.lst _)) => appM i m g
  | _ => .bad
theorem At.appendAt {i : Nat} {os : List O} {o : O} {v y : V} (a : At X H Ex σ g ((y, o) :: T) ws) (hg : g[i]? = some (some (.lst os))) (hv : σ[i]? = some (some v)) : ∃ ad vs, v = .ref ad ∧ H ad = some (.lst vs) ∧ vs.length = os.length ∧
    At X (upd H ad (.lst (vs ++ [y]))) Ex σ (g.set i (some (.lst (os ++ [o])))) T [] := by
  have r := (a.get hg hv).noviews
  obtain ⟨ad, ho, vs, os1, e1, e2, p, hl, r2⟩ := r.opn rfl
  cases p
  refine ⟨ad, vs, e1, e2, hl, ?_⟩
  subst e1
  refine .put a.fit hv (((r2.write (.lst (vs ++ [y]))).perm ?_).shut (.lst (os := os ++ [o])) (by simp [hl]))
  rw [List.zip_append hl]
  simp only [List.zip_cons_cons, List.zip_nil_right, List.append_assoc, List.cons_append, List.nil_append]
  refine List.Perm.append_left _ ?_
  exact List.perm_middle
theorem permErase {α : Type} : ∀ {l : List α} {j : Nat} (h : j < l.length), (l[j] :: l.eraseIdx j).Perm l
  | a :: l, 0, _ => .refl _
  | a :: l, j + 1, h => by
    simp only [List.getElem_cons_succ, List.eraseIdx_cons_succ]
    exact (List.Perm.swap _ _ _).trans (.cons _ (permErase (l := l) (j := j) (by simpa using h)))
theorem permSet {α : Type} (x : α) : ∀ {l : List α} {j : Nat} (h : j < l.length), (l.set j x).Perm (x :: l.eraseIdx j)
  | a :: l, 0, _ => .refl _
  | a :: l, j + 1, h => by
    simp only [List.set_cons_succ, List.eraseIdx_cons_succ]
    exact (List.Perm.cons _ (permSet x (l := l) (j := j) (by simpa using h))).trans (.swap _ _ _)
theorem zipSet : ∀ {vs : List V} {os : List O} {j : Nat} {y : V} {o : O}, (vs.set j y).zip (os.set j o) = (vs.zip os).set j (y, o)
  | [], _, _, _, _ => by simp
  | _ :: _, [], j, _, _ => by cases j <;> simp
  | v :: vs, q :: os, 0, _, _ => by simp
  | v :: vs, q :: os, j + 1, y, o => by simp [zipSet (vs := vs) (os := os) (j := j) (y := y) (o := o)]
theorem At.setIx {i j : Nat} {os : List O} {o : O} {v y : V} (a : At X H Ex σ g ((y, o) :: T) ws) (hg : g[i]? = some (some (.lst os))) (hv : σ[i]? = some (some v)) (hj : j < os.length) : ∃ ad vs, v = .ref ad ∧ H ad = some (.lst vs) ∧ vs.length = os.length ∧
    At X (upd H ad (.lst (vs.set j y))) Ex σ (g.set i (some (.lst (os.set j o)))) T [] := by
  have r := (a.get hg hv).noviews
  obtain ⟨ad, ho, vs, os1, e1, e2, p, hl, r2⟩ := r.opn rfl
  cases p
  refine ⟨ad, vs, e1, e2, hl, ?_⟩
  subst e1
  refine .put a.fit hv (Rel.shut (vs := vs.set j y) (os := os.set j o) ?_ (.lst (os := os.set j o)) (by simp [hl]))
  have hjz : j < (vs.zip os).length := by rw [List.length_zip]; omega
  have p1 : (vs.zip os).Perm ((vs.zip os)[j] :: (vs.zip os).eraseIdx j) := (permErase hjz).symm
  have p2 : ((vs.zip os).set j (y, o)).Perm ((y, o) :: (vs.zip os).eraseIdx j) := permSet _ hjz
  rw [zipSet]
  have r3 := (r2.perm (p1.append_right _)).drop
  refine (r3.write (.lst (vs.set j y))).perm ?_
  refine List.Perm.trans ?_ (p2.symm.append_right _)
  refine ((List.perm_middle.append_left _).trans List.perm_middle)
theorem ev_app (i : Nat) {xn : Str} {ap pp : Pos} (h : Ev X W pu a m) (hN : X.N[i]? = some xn := by rfl) (hv : Vis X.env.scope xn := by first | exact Or.inl rfl | exact Or.inr (Or.inl rfl) | exact Or.inr (Or.inr rfl)) (hdd1 : (xn == ("__debug__" : Str)) = false := by decide) (hcd : (xn == ("__classdict__" : Str)) = false := by decide)
    (hbase : attributeBase (.Name xn pp) "append" X.env (eval (.Name xn pp) X.env) = eval (.Name xn pp) X.env := by rfl)
    (hfew : ((backTo pos (starEach [a] X.env)).all (fun x => !x.1) && (backToKw pos (keywordEach [] X.env)).all (fun x => x.1.isSome)
      && decide ([a].length + ([] : List Keyword).length + (if ([] : List Keyword).isEmpty then 0 else 1) < 30)) = true := by rfl)
    (hline : (ap.endLine == pos.line) = true := by rfl) (hst : starEach [a] X.env = (false, eval a X.env) :: starEach [] X.env := by rfl) (hplain : (backTo pos (starEach [] X.env)).any (·.1) = false := by rfl) :
    Ev X W false (.Call (.Attribute (.Name xn pp) "append" ap) [a] [] pos) (appLM i m) := by
  obtain ⟨t, h1, h2⟩ := h.ex
  refine ⟨_, pe_bm PySem.F.plainAttrs_list PySem.F.slot_list_append PySem.F.type_list_append mt_append (pv i hN hv hdd1 hcd) (pa_cons h1 pa_nil hst) hbase hfew hline hst hplain, fun σ H Q g T Ex ws at0 w => ?_⟩
  unfold appLM at w
  split at w
  · rename_i os0 hg0
    obtain ⟨v, hv⟩ := at0.fit.at_ _ _ hg0
    have r0 := (at0.get hg0 hv).noviews
    obtain ⟨ad0, ho0, vs0, os1, e1, e2, p, hl, r2⟩ := r0.opn rfl
    cases p
    subst e1
    refine ⟨_, hv, .inl ⟨rfl, _, SqL.of e2⟩, ?_⟩
    refine h2 σ H _ g T Ex ws at0 (w.bd.imp (fun o g' kk y H' s a' => ?_) fun _ _ kk => kk)
    split at kk
    · rename_i os hg
      split at kk
      · rename_i hlen
        obtain ⟨ad, vs, e3, e4, hl', a3⟩ := a'.appendAt hg hv
        cases e3
        refine ⟨ad0, vs, y, rfl, rfl, e4, by rw [hl', sizeLine_eq]; exact hlen, ?_⟩
        exact kk _ _ (fun z => by cases z) (a3.data fun _ => .non)
      · exact kk.elim
    · exact kk.elim
  · exact w.elim
def ixSet1 (i : Nat) (mi : M O) (o : O) : M Unit := M.bd mi fun oi => M.bd (asI oi) fun k g => match g[i]? with
  | some (some (.lst os)) => match ixN os.length k with
    | some j => .ok () (g.set i (some (.lst (os.set j o))))
    | none => .bad
  | _ => .bad
def ixSetM (i : Nat) (mi : M O) (o : O) : M Unit := fun g => match g[i]? with
  | some (some _) => ixSet1 i mi o g
  | _ => .bad
theorem ixNlt {n : Nat} {i : Int} {j : Nat} (h : ixN n i = some j) : j < n := (ixN_seq h).2.1
theorem eg_ix (i : Nat) {xn : Str} {pp : Pos} (h : Ev X W pu b m) (hN : X.N[i]? = some xn := by rfl) (hv : Vis X.env.scope xn := by first | exact Or.inl rfl | exact Or.inr (Or.inl rfl) | exact Or.inr (Or.inr rfl)) (hdd1 : (xn == ("__debug__" : Str)) = false := by decide) (hcd : (xn == ("__classdict__" : Str)) = false := by decide)
    (ha : ∀ v, assign (.Subscript (.Name xn pp) b pos) X.env v = (do
      let ov ← holding [v] (eval (.Name xn pp) X.env)
      let iv ← holding [v, ov] (eval b X.env)
      standAt pos
      holding [v, ov, iv] (setItem ov iv v)
      release [v, ov, iv] []) := by intro _; rfl) : EvG X W np (.Subscript (.Name xn pp) b pos) (ixSetM i m) := by
  obtain ⟨t, h1, h2⟩ := h.ex
  refine ⟨_, pg_sub (pv i hN hv hdd1 hcd) h1 set_list ha, fun σ H Q g T Ex v o at0 w => ?_⟩
  unfold ixSetM at w
  split at w
  · rename_i o0 hg0
    obtain ⟨u, hu⟩ := at0.fit.at_ _ _ hg0
    refine ⟨u, hu, ?_⟩
    refine h2 σ H _ g _ Ex [] at0 (w.bd.imp (fun oi g' kk y H' s a' => ?_) fun x g' kk H' cls d a2 e => kk σ H' cls d .refl a2.drop e)
    obtain ⟨ki, rfl, k2⟩ := wpI kk.bd
    obtain rfl := a'.top.isI
    split at k2
    · rename_i os hg
      split at k2
      · rename_i jj hj
        obtain ⟨ad, vs, e3, e4, hl', a3⟩ := a'.drop.setIx hg hu (ixNlt hj)
        subst e3
        exact ⟨ad, vs, ki, jj, rfl, rfl, e4, by rw [hl']; exact hj, k2 σ _ .refl a3⟩
      · exact k2.elim
    · exact k2.elim
  · exact w.elim
end
end Z
namespace Z
open PySem PySem.Spec L2
theorem boot_len_ : bootBuiltins "len" = some (.builtin "len") := by decide +kernel
theorem boot_isi_ : bootBuiltins "isinstance" = some (.builtin "isinstance") := by decide +kernel
end Z
namespace Z
open PySem PySem.Spec L2
/-- a def of the module as it stands behind the top -/
structure DefAt (K : PySem.W.Frag) (mg : Str → Option Value) (x : Str) (st : Stmt) : Prop where
  ex : ∃ (a : Addr) (fd : FuncData), mg x = some (.ref a) ∧ Fun K x x st a fd
theorem defAt {K : PySem.W.Frag} {mg : Str → Option Value} {h : Heap} {x : Str} {st : Stmt} {f : Addr} {oc : Value} {od an : Option Addr} {osl : Array (Option Value)} {kV doc pm cdv ct : Value} (X : K.In h) (G : h.Ns mainGlobals mg)
    (a : PySem.W.nsIn K mainGlobals x = some (some (.ref f))) (l : K.lookup f = some ⟨oc, od, .func (PySem.W.fnOf x x (defArgs st) (defBody st) (defScope st) .none kV doc pm an cdv ct), osl⟩) (c : PySem.W.codeIn K cdv x = true) (k : PySem.W.keepIn K (.ref f) = true) : DefAt K mg x st :=
  ⟨_, _, PySem.W.mg_of X G a, fun_mk l c k⟩
def trueF (f : Fn) (ns : List Int) : Prop := FW (f [.gL (ns.map PyData.int)]) (fun r ps => r = .d (.bool true) ∧ ps.length = 1) (fun _ => False)
def spLaw (K : PySem.W.Frag) (f : Fn) : Sp := fun vs H Q E => ∃ (a : Addr) (ns : List Int), vs = [.ref a] ∧ SqL K H a (ns.map V.int) ∧ trueF f ns ∧ ∀ H', Q (.bl true) H'
theorem dpInts {K : PySem.W.Frag} {H : Hp} : ∀ (ns : List Int), DpAll K H (ns.map V.int) (ns.map PyData.int)
  | [] => .nil
  | n :: r => .cons (.int n) (dpInts r)
theorem lawSp {P : Program} {w : World} {K : PySem.W.Frag} {mg : Str → Option Value} {base : Heap} {k : Nat} {a : Addr} {fd : FuncData} {x : Str} {f : Fn} (F : FnG P w K mg base (L2.CX P w) k a fd [x] (spF K mg 1 f)) :
    FnG P w K mg base (L2.CX P w) k a fd [x] (spLaw K f) := by
  refine F.imp fun vs H Q E h => ?_
  obtain ⟨b, ns, rfl, hS, e, hQ⟩ := h
  refine ⟨rfl, [.gL (ns.map PyData.int)], [], [], rfl, ⟨⟨H, fun _ => none⟩, [], ⟨Same.refl _, by simp⟩, by simp, ?_, by simp, by simp, by simp⟩, ?_⟩
  · exact .cons (as := []) (bs := []) (.gL hS (dpInts ns)) .nil
  · refine FW.imp e (fun r ps z => ?_) (fun x z => z.elim)
    obtain ⟨rfl, hl⟩ := z
    refine ⟨hl, fun v H' r => ?_⟩
    obtain ⟨Hf, s, d, _⟩ := r.headDp
    cases d
    exact hQ H'
open PyProof.Rows in
/-- the law's call where no repr is under way -/
theorem lawG {P : Program} {w : World} {K : PySem.W.Frag} {mg mb : Str → Option Value} {CX : CXT} {k : Nat} {fa a : Addr} {fd : FuncData} {x : Str} {sp : Sp} {s₁ : Shared} {vs : List Value} {ns : List Int}
    (KX : K.In s₁.heap) (g1 : s₁.heap.Ns mainGlobals mg) (g2 : s₁.heap.Ns builtinsNs mb) (g3 : ∀ x : Str, x ≠ "__name__" → mb x = bootBuiltins x) (g4 : s₁.heap.NoLimit) (g5 : s₁.gens = #[])
    (ha : s₁.heap.get? a = some { cls := .type "list", data := .seq vs.toArray }) (hi : IntsAre vs ns) (hl : ns.length ≤ sizeLine) (hr : RoomG k callerA)
    (F : ∀ base : Heap, K.In base → base.Ns mainGlobals mg → FnG P w K mg base CX k fa fd [x] sp) (hb : ∀ (s : Shared) (u : Value), BindsTo s fd ⟨[u], []⟩ [(x, u)])
    (hsp : ∀ H : Hp, Only H → SqL K H a (ns.map V.int) → sp [.ref a] H (fun v _ => v = .bl true) fun _ _ _ => False) (hX : ∀ H e s', CX [] H s₁ (fun _ _ _ => False) e s' → False) :
    codeAny (model P w) callerA (.call (.ref fa) ⟨[.ref a], []⟩) (fun r s' => r = .ok (.ret (.bool true)) ∧ OldK s₁.heap s'.heap ∧ s'.os = s₁.os ∧ AllBare s'.gens) s₁ := by
  have rv := vals_ints hi
  -- H tracks nothing, or the script alone
  have by_ : ∀ H : Hp, Only H → SqL K H a (ns.map V.int) → HOk P w H s₁.heap → (∀ b, b ≠ a → H b = none) → (K.lookup a = none ∨ H a = none) →
      codeAny (model P w) callerA (.call (.ref fa) ⟨[.ref a], []⟩) (fun r s' => r = .ok (.ret (.bool true)) ∧ OldK s₁.heap s'.heap ∧ s'.os = s₁.os ∧ AllBare s'.gens) s₁ := by
    intro H hO hS hok hA hK
    have keep : ∀ {b : Addr} {o : Obj}, s₁.heap.get? b = some o → (b = a → H a = none) → (hidT s₁.heap H).get? b = some o := fun {b o} e n => hidT_get e (by
      by_cases z : b = a
      · rw [z]; exact n z
      · exact hA b z)
    have nsK : ∀ {b : Addr} {m : Str → Option Value}, s₁.heap.Ns b m → (hidT s₁.heap H).Ns b m := by
      intro b m h
      obtain ⟨o, es, ep, e, d, r⟩ := h
      refine ⟨o, es, ep, keep e fun z => ?_, d, r⟩
      rw [z, ha] at e
      cases e
      cases d
    have kin : K.In (hidT s₁.heap H) := fun b o e => keep (KX b o e) fun z => by
      rcases hK with hK | hK
      · rw [z, hK] at e; cases e
      · exact hK
    have md : Mod K mg (hidT s₁.heap H) := by
      obtain ⟨mc, h1, h2⟩ := g4
      exact ⟨kin, nsK g1, ⟨mb, nsK g2, g3⟩, mc, nsK h1, h2⟩
    have e0 : Env0 P w K mg (hidT s₁.heap H) callerA [] s₁ H := ⟨rfl, md, fun b o e => of_hidT e, Nat.le_of_eq (hidT_size _ _), trivial, (fun b hb => by cases hb), hok, .of_eq g5⟩
    have run := (F _ kin (nsK g1)).run callerA [] s₁ H ⟨[.ref a], []⟩ [.ref a] [.ref a] _ _ hr e0 (hb s₁ (.ref a)) (.cons rfl .nil) (hsp H hO hS)
    refine codeAny_mono run fun r s' h => ?_
    match r, h with
    | .error e, h => exact (hX H e s' h).elim
    | .ok .next, h => exact False.elim h
    | .ok .brk, h => exact False.elim h
    | .ok .cont, h => exact False.elim h
    | .ok (.ret u), h =>
      obtain ⟨v, H', os, bare, un, hok', r1, q⟩ := h
      have q : v = .bl true := q
      subst q
      obtain rfl : u = Value.bool true := r1
      refine ⟨rfl, OldK.of_keep fun b o e => ?_, os, bare⟩
      rcases hO b with z | ⟨ob, xs, z⟩
      · exact un.keep b o e z (fun m => by cases m) (fun m => by cases m)
      · obtain ⟨e1, _⟩ := hok b _ z
        obtain ⟨e2, _⟩ := hok' b _ (un.frzs b ob _ z)
        rw [e] at e1
        cases e1
        exact e2
  have hz : vs.toArray.size ≤ sizeLine := by rw [List.size_toArray, hi.length]; exact hl
  by_cases hk : K.lookup a = none
  · have at_ : ∀ {b : Addr} {u : HO}, (if b = a then some (HO.frz { cls := .type "list", data := .seq vs.toArray } (.lst (ns.map V.int))) else none) = some u → b = a ∧ u = .frz { cls := .type "list", data := .seq vs.toArray } (.lst (ns.map V.int)) := by
      intro b u z
      by_cases e : b = a
      · rw [if_pos e] at z; cases z; exact ⟨e, rfl⟩
      · rw [if_neg e] at z; cases z
    refine by_ (fun b => if b = a then some (.frz { cls := .type "list", data := .seq vs.toArray } (.lst (ns.map V.int))) else none) (fun b => ?_) (.inl (.inr ⟨{ cls := .type "list", data := .seq vs.toArray }, if_pos rfl⟩)) (fun b u z => ?_) (fun b e => if_neg e) (.inl hk)
    · by_cases e : b = a
      · exact .inr ⟨_, _, if_pos e⟩
      · exact .inl (if_neg e)
    · obtain ⟨e1, e2⟩ := at_ z
      subst e1
      subst e2
      exact ⟨ha, by rw [List.length_map]; exact hl, vs, _, rv, ha⟩
  · obtain ⟨o, ho⟩ := Option.ne_none_iff_exists'.mp hk
    have e := KX a o ho
    rw [ha] at e
    cases e
    exact by_ (fun _ => none) (fun _ => .inl rfl) (.inr ⟨_, vs.toArray, _, ho, rfl, rfl, rfl, hz, by simpa using rv⟩) (fun b u z => by cases z) (fun b _ => rfl) (.inr rfl)
open PyProof.Rows in
theorem zwalk {l : PySem.W.OpenLaw} {q : Program} {loose : List Str} {XP : (Str → Option Value) → Heap → Prop} {YP : World → Heap → Prop} {d : DefRec} {K : Params → PySem.W.Frag} {f : Fn} {x : Str} (k : Nat) (hn : l.most = some 63) (hdf : d.params.defaults = [])
    (hr : Room k callerA) (hp : ∀ ns : List Int, ns.length ≤ 63 → trueF f ns)
    (hY : ∀ (w : World) (h : Heap), YP w h → (K w.params).In h)
    (F : ∀ (w : World) (mg : Str → Option Value) (fa : Addr) (h : Heap), (K w.params).In h → h.Ns mainGlobals mg → mg d.name = some (.ref fa) →
      ∃ fd : FuncData, (∀ (s : Shared) (u : Value), BindsTo s fd ⟨[u], []⟩ [(x, u)]) ∧ ∀ base : Heap, FnG l.prog w (K w.params) mg base (L2.CX l.prog w) k fa fd [x] (spF (K w.params) mg 1 f)) :
    PySem.W.WalkO q loose XP YP l.row.toRowW d [] (fun f vs => PySem.call f vs) :=
  Att.attach_call hn hdf fun w s₀ s₁ mg mb fa o pm cd doc a vs ns G Y ho hd hcd hmg hobj hints hlen hg => by
    have KX := hY w _ Y
    obtain ⟨fd, b, g⟩ := F w mg fa _ KX G.T.g hmg
    exact lawG (CX := L2.CX l.prog w) (sp := spLaw (K w.params) f) KX G.T.g G.T.b G.T.builtins G.T.nolimit hg hobj hints (Nat.le_trans hlen (by decide)) ⟨hr, rfl⟩ (fun base _ _ => lawSp (g base)) b
      (fun H _ hS => ⟨a, ns, rfl, hS, hp ns hlen, fun _ => rfl⟩) fun H e s' z => by
        obtain ⟨_, _, _, _, _, _, _, _, _, _, _, _, z⟩ := z
        exact z.elim
end Z
namespace Z
open PySem PySem.Spec L2
section
variable {α β : Type} {A : α → Gs → Prop} {C : β → Gs → Prop} {B : Exn → Gs → Prop} {g : Gs}
@[simp] theorem wp_ret {a : α} : Wp (M.ret a g) A B = A a g := rfl
@[simp] theorem wp_no : Wp ((M.no : M α) g) A B = False := rfl
@[simp] theorem wp_ok {a : α} : Wp (.ok a g) A B = A a g := rfl
@[simp] theorem wp_bad : Wp (.bad : Res α) A B = False := rfl
@[simp] theorem wp_bd {m : M α} {f : α → M β} : Wp (M.bd m f g) C B = Wp (m g) (fun a e' => Wp (f a e') C B) B := by
  exact propext Res.wp_bd
@[simp] theorem wp_ite {c : Prop} [Decidable c] {m n : M α} : Wp ((if c then m else n) g) A B = if c then Wp (m g) A B else Wp (n g) A B := by split <;> rfl
@[simp] theorem wp_gd {c : Bool} {m : M α} : Wp (gdM c m g) A B = (c = true ∧ Wp (m g) A B) := by
  unfold gdM
  split
  · simp_all
  · simp_all [Wp]
end
def optW {α : Type} (x : Option α) (A : α → Prop) : Prop := match x with
  | some o => A o
  | none => False
@[simp] theorem optW_some {α : Type} {o : α} {A : α → Prop} : optW (some o) A = A o := rfl
@[simp] theorem optW_none {α : Type} {A : α → Prop} : optW (none : Option α) A = False := rfl
@[simp] theorem optW_ite {α : Type} {c : Prop} [Decidable c] {x : Option α} {A : α → Prop} : optW (if c then x else none) A = (c ∧ optW x A) := by
  split <;> simp_all
section
variable {A : O → Gs → Prop} {AB : Bool → Gs → Prop} {AF : Fl → Gs → Prop} {AL : List O → Gs → Prop} {AU : Unit → Gs → Prop} {AR : List Arg → Gs → Prop} {AD : List PyData → Gs → Prop} {B : Exn → Gs → Prop} {g : Gs} {m n : M O} {ms : M (List O)} {i : Nat}
@[simp] theorem wp_d {x : PyData} : Wp (dM x g) A B = A (.d x) g := rfl
@[simp] theorem wp_cons : Wp (consM m ms g) AL B = Wp (m g) (fun o g1 => Wp (ms g1) (fun os g2 => AL (o :: os) g2) B) B := by simp [consM]
@[simp] theorem wp_op {f : List O → Option O} : Wp (opM f ms g) A B = Wp (ms g) (fun os g1 => optW (f os) fun o => A o g1) B := by
  simp only [opM, wp_bd, liftM]
  congr 1
  funext os g1
  cases f os <;> rfl
@[simp] theorem wp_opt {x : Option O} : Wp (optM x g) A B = optW x fun o => A o g := by cases x <;> rfl
@[simp] theorem wp_tst : Wp (tstM m g) AB B = Wp (m g) (fun o g1 => match o with | .d (.bool b) => AB b g1 | _ => False) B := by
  simp only [tstM, wp_bd, asB]
  congr 1
  funext o g1
  split
  · rfl
  · first | rfl | (split <;> first | rfl | simp_all)
@[simp] theorem wp_asI {o : O} {AI : Int → Gs → Prop} : Wp (asI o g) AI B = match o with | .d (.int b) => AI b g | _ => False := by
  unfold asI
  split
  · rfl
  · first | rfl | (split <;> first | rfl | simp_all)
@[simp] theorem wp_asS {o : O} {AI : Str → Gs → Prop} : Wp (asS o g) AI B = match o with | .d (.str b) => AI b g | _ => False := by
  unfold asS
  split
  · rfl
  · first | rfl | (split <;> first | rfl | simp_all)
@[simp] theorem wp_asB {o : O} {AI : Bool → Gs → Prop} : Wp (asB o g) AI B = match o with | .d (.bool b) => AI b g | _ => False := by
  unfold asB
  split
  · rfl
  · first | rfl | (split <;> first | rfl | simp_all)
@[simp] theorem wp_rd : Wp (rdM i g) A B = match g[i]? with | some (some (.d x)) => A (.d x) g | _ => False := by
  unfold rdM
  split
  · simp_all
  · first | rfl | (split <;> first | rfl | simp_all)
@[simp] theorem wp_pk : Wp (pkM i g) A B = match g[i]? with | some (some o) => A o g | _ => False := by
  unfold pkM
  split
  · simp_all
  · first | rfl | (split <;> first | rfl | simp_all)
@[simp] theorem wp_mv : Wp (mvM i g) A B = match g[i]? with | some (some o) => A o (g.set i none) | _ => False := by
  unfold mvM
  split
  · simp_all
  · first | rfl | (split <;> first | rfl | simp_all)
def fzW (i : Nat) (g : Gs) (A : O → Gs → Prop) : Option (Option O) → Prop
  | some (some (.d x)) => A (.d x) g
  | some (some o) => match o.fz with
    | some x => A (.d x) (g.set i (some (.d x)))
    | none => False
  | _ => False
@[simp] theorem fzW_d {x : PyData} : fzW i g A (some (some (.d x))) = A (.d x) g := rfl
theorem fzW_lst {xs : List O} : fzW i g A (some (some (.lst xs))) = match (O.lst xs).fz with | some x => A (.d x) (g.set i (some (.d x))) | none => False := rfl
@[simp] theorem wp_fz : Wp (fzM i g) A B = fzW i g A (g[i]?) := by
  unfold fzM
  cases q : g[i]? with
  | none => rfl
  | some x =>
    cases x with
    | none => rfl
    | some o =>
      cases o with
      | d x => rfl
      | _ =>
        simp only [fzW]
        split <;> rename_i e <;> simp [Wp, e]
@[simp] theorem wp_tup : Wp (tupM ms g) A B = Wp (ms g) (fun os g1 => lenOk os.length = true ∧ A (mkTup os) g1) B := by simp [tupM]
@[simp] theorem wp_lst : Wp (lstM ms g) A B = Wp (ms g) (fun os g1 => lenOk os.length = true ∧ A (.lst os) g1) B := by simp [lstM]
@[simp] theorem wp_if {α : Type} {A : α → Gs → Prop} {c : M Bool} {m n : M α} : Wp (ifM c m n g) A B = Wp (c g) (fun b g1 => if b = true then Wp (m g1) A B else Wp (n g1) A B) B := by simp [ifM]
@[simp] theorem wp_bl {c : M Bool} : Wp (blM c g) A B = Wp (c g) (fun b g1 => A (.d (.bool b)) g1) B := by simp [blM]
@[simp] theorem wp_andV : Wp (andV m n g) A B = Wp (tstM m g) (fun b g1 => if b = true then Wp (n g1) A B else A (.d (.bool false)) g1) B := by simp only [andV, wp_bd, wp_ite, wp_ret]
@[simp] theorem wp_orV : Wp (orV m n g) A B = Wp (tstM m g) (fun b g1 => if b = true then A (.d (.bool true)) g1 else Wp (n g1) A B) B := by simp only [orV, wp_bd, wp_ite, wp_ret]
@[simp] theorem wp_notV : Wp (notV m g) A B = Wp (tstM m g) (fun b g1 => A (.d (.bool (!b))) g1) B := by simp only [notV, wp_bd, wp_ret]
@[simp] theorem wp_notZ {c : M Bool} : Wp (notZ c g) AB B = Wp (c g) (fun b g1 => AB (!b) g1) B := by simp only [notZ, wp_bd, wp_ret]
@[simp] theorem wp_andZ {c d : M Bool} : Wp (andZ c d g) AB B = Wp (c g) (fun b g1 => if b = true then Wp (d g1) AB B else AB false g1) B := by simp only [andZ, wp_bd, wp_ite, wp_ret]
@[simp] theorem wp_orZ {c d : M Bool} : Wp (orZ c d g) AB B = Wp (c g) (fun b g1 => if b = true then AB true g1 else Wp (d g1) AB B) B := by simp only [orZ, wp_bd, wp_ite, wp_ret]
@[simp] theorem wp_seq {a b : M Fl} : Wp (seqM a b g) AF B = Wp (a g) (fun fl g1 => match fl with | .next => Wp (b g1) AF B | .ret o => AF (.ret o) g1 | .brk => AF .brk g1 | .cnt => AF .cnt g1) B := by
  simp only [seqM, wp_bd]
  congr 1
  funext fl g1
  cases fl <;> rfl
@[simp] theorem wp_retM : Wp (retM m g) AF B = Wp (m g) (fun o g1 => AF (.ret o) g1) B := by simp [retM]
@[simp] theorem wp_drop : Wp (dropM m g) AF B = Wp (m g) (fun o g1 => AF .next g1) B := by simp [dropM]
@[simp] theorem wp_asg {f : O → M Unit} : Wp (asgM m f g) AF B = Wp (m g) (fun o g1 => Wp (f o g1) (fun _ g2 => AF .next g2) B) B := by simp [asgM]
@[simp] theorem wp_set {o : O} : Wp (setM i o g) AU B = AU () (g.set i (some o)) := rfl
@[simp] theorem wp_items {o : O} : Wp (itemsM o g) AD B = match o with
  | .d (.list ds) => AD ds g
  | .d (.tuple ds) => AD ds g
  | .d (.str z) => AD (signs z) g
  | .gL ds => AD ds g
  | .gT ds => AD ds g
  | .lst os => optW (allD os) fun ds => AD ds g
  | _ => False := by
  unfold itemsM
  repeat' split
  all_goals first | rfl | simp_all
@[simp] theorem wp_rng1 {os : List O} : Wp (rng1M os g) AD B = match os with | [.d (.int i)] => inRng i = true ∧ AD (intsF 0 i.toNat) g | _ => False := by
  unfold rng1M
  repeat' split
  all_goals simp_all [Wp]
@[simp] theorem wp_rng2 {os : List O} : Wp (rng2M os g) AD B = match os with | [.d (.int i), .d (.int j)] => (inRng i = true ∧ inRng j = true) ∧ AD (intsF i (j - i).toNat) g | _ => False := by
  unfold rng2M
  repeat' split
  all_goals simp_all [Wp]
@[simp] theorem wp_vw : Wp (vwM m g) A B = Wp (m g) (fun o g1 => match o with | .d x => A (.d x) g1 | _ => False) B := by
  refine (wp_bd (m := m)).trans (congrArg (fun Z => Wp (m g) Z B) ?_)
  funext o g1
  cases o <;> rfl
@[simp] theorem wp_ch {f f' : List O → Option O} {ma mb mc : M O} : Wp (chM f f' ma mb mc g) A B = Wp (ma g) (fun x g1 => Wp (mb g1) (fun y g2 => optW (f [x, y]) fun z => match z with
    | .d (.bool k) => if k = true then Wp (mc g2) (fun u g3 => optW (f' [y, u]) fun o => A o g3) B else A (.d (.bool false)) g2
    | _ => False) B) B := by
  simp only [chM, wp_bd, wp_op, wp_ret]
  congr 1
  funext x g1
  congr 1
  funext y g2
  cases f [x, y] with
  | none => rfl
  | some o =>
    simp only [wp_asB, optW_some]
    split
    · rename_i b
      cases b <;> simp
    · first | rfl | (split <;> simp_all)
@[simp] theorem wp_valA {ms : M (List Arg)} : Wp (valA m ms g) AR B = Wp (m g) (fun o g1 => Wp (ms g1) (fun as g2 => AR (.val o :: as) g2) B) B := by simp [valA]
@[simp] theorem wp_slIn {ms : M (List Arg)} : Wp (slIn i ms g) AR B = match g[i]? with | some (some _) => Wp (ms g) (fun as g2 => AR (.sl i :: as) g2) B | _ => False := by
  unfold slIn
  split
  · simp_all [slA]
  · first | rfl | (split <;> first | rfl | simp_all)
@[simp] theorem wp_slLh {ma ml mh : M O} : Wp (slLhM ma ml mh g) A B = Wp (ma g) (fun o g1 => Wp (ml g1) (fun oi g2 => match oi with | .d (.int i) => Wp (mh g2) (fun oj g3 => match oj with | .d (.int j) => (optW (slB o (some i) (some j)) fun r => A r g3) | _ => False) B | _ => False) B) B := by
  simp only [slLhM, wp_bd, wp_asI, wp_opt]
/-- a call -/
theorem wp_call {f : Fn} {dfs : List PyData} {ms : M (List Arg)} : Wp (callM f dfs ms g) A B = Wp (ms g) (fun as g1 => optW (takeA as g1) fun p => FW (f (p.1 ++ dfs.map O.d)) (fun r ps => ps.length = (p.1 ++ dfs.map O.d).length ∧ A r (giveA as (ps.take p.1.length) p.2)) (fun x => B x p.2)) B := by
  refine (wp_bd (m := ms)).trans (congrArg (fun Z => Wp (ms g) Z B) ?_)
  funext as g1
  cases takeA as g1 with
  | none => rfl
  | some p =>
    obtain ⟨os, g2⟩ := p
    simp only [optW_some]
    rw [show Wp _ A B = _ from propext FRes.wp_res]
    congr 1
    funext r ps
    split
    · rename_i h
      simp [Wp, h]
    · rename_i h
      exact propext ⟨fun z => z.elim, fun z => absurd z.1 h⟩
theorem fw_run {np na nN : Nat} {m : M Fl} {os : List O} {A : O → List O → Prop} {B : Exn → Prop} : FW (runF np na nN m os) A B = ((os.length = na ∧ (os.drop np).all isD = true) ∧ Wp (m (os.map some ++ List.replicate (nN - na) none))
    (fun fl g => match fl with
      | .next => FW (finF np os (.d .none) g) A B
      | .ret o => FW (finF np os o g) A B
      | _ => False) (fun x _ => B x)) := by
  unfold runF
  split
  · rename_i h
    simp only [h, and_self, true_and]
    rw [show FW _ A B = _ from propext Res.fw_toF]
    congr 1
    funext fl g
    cases fl <;> rfl
  · rename_i h
    exact propext ⟨fun z => z.elim, fun z => absurd z.1 h⟩
end
theorem Wp.mono {α : Type} {r : Res α} {A A' : α → Gs → Prop} {B B' : Exn → Gs → Prop} (h : Wp r A B) (ha : ∀ a e, A a e → A' a e) (hb : ∀ x e, B x e → B' x e) : Wp r A' B' := h.imp ha hb
theorem FW.mono {r : FRes} {A A' : O → List O → Prop} {B B' : Exn → Prop} (h : FW r A B) (ha : ∀ a e, A a e → A' a e) (hb : ∀ x, B x → B' x) : FW r A' B' := h.imp ha hb
theorem wp_comp {vs : List Nat} {mi : M (List PyData)} {set : O → M Unit} {tst : M Bool} {elt : M O} {g : Gs} {A : O → Gs → Prop} {B : Exn → Gs → Prop} :
    Wp (compM vs mi set tst elt g) A B = Wp (mi g) (fun ds g1 => lenOk ds.length = true ∧ Wp (lcM vs set tst elt ds [] (wipeG g1 vs)) (fun os g3 => A (.lst os) (restG g1 vs g3)) fun _ _ => False) B := by
  refine (wp_bd (m := mi)).trans (congrArg (fun Z => Wp (mi g) Z B) ?_)
  funext ds g1
  split
  · rename_i h
    simp only [h, true_and]
    exact (propext Res.wp_bd).trans (propext Res.wp_noX)
  · rename_i h
    simp [Wp, h]
end Z
namespace Z
open PySem PySem.Spec L2
@[simp] theorem addF_i {i j : Int} : addF [.d (.int i), .d (.int j)] = some (.d (.int (i + j))) := rfl
@[simp] theorem addF_s {i j : Str} : addF [.d (.str i), .d (.str j)] = if lenOk (i.length + j.length) = true then some (.d (.str (i ++ j))) else none := rfl
@[simp] theorem subF_i {i j : Int} : subF [.d (.int i), .d (.int j)] = some (.d (.int (i - j))) := rfl
@[simp] theorem mulF_i {i j : Int} : mulF [.d (.int i), .d (.int j)] = if mulC i j = true then some (.d (.int (i * j))) else none := rfl
@[simp] theorem divF_i {i j : Int} : divF [.d (.int i), .d (.int j)] = if (decide (0 < j) && decide (j < 18446744073709551616)) = true then some (.d (.int (i / j))) else none := rfl
@[simp] theorem modF_i {i j : Int} : modF [.d (.int i), .d (.int j)] = if decide (0 < j) = true then some (.d (.int (i % j))) else none := rfl
@[simp] theorem powF_i {i j : Int} : powF [.d (.int i), .d (.int j)] = if powC i j = true then some (.d (.int (i ^ j.toNat))) else none := rfl
@[simp] theorem ltF_i {i j : Int} : ltF [.d (.int i), .d (.int j)] = some (.d (.bool (decide (i < j)))) := rfl
@[simp] theorem leF_i {i j : Int} : leF [.d (.int i), .d (.int j)] = some (.d (.bool (decide (i ≤ j)))) := rfl
@[simp] theorem gtF_i {i j : Int} : gtF [.d (.int i), .d (.int j)] = some (.d (.bool (decide (j < i)))) := rfl
@[simp] theorem geF_i {i j : Int} : geF [.d (.int i), .d (.int j)] = some (.d (.bool (decide (j ≤ i)))) := rfl
@[simp] theorem max2F_i {i j : Int} : max2F [.d (.int i), .d (.int j)] = some (.d (.int (if j > i then j else i))) := rfl
@[simp] theorem min2F_i {i j : Int} : min2F [.d (.int i), .d (.int j)] = some (.d (.int (if j < i then j else i))) := rfl
@[simp] theorem negF_i {i : Int} : negF [.d (.int i)] = some (.d (.int (-i))) := rfl
@[simp] theorem mulC_r {i j : Int} (h : -18446744073709551616 < j := by omega) (h' : j < 18446744073709551616 := by omega) : mulC i j = true := by simp [mulC, h, h']
@[simp] theorem mulC_l {i j : Int} (h : -18446744073709551616 < i := by omega) (h' : i < 18446744073709551616 := by omega) : mulC i j = true := by simp [mulC, h, h']
@[simp] theorem lenF_gL {ds : List PyData} : lenF [.gL ds] = some (.d (.int ds.length)) := rfl
@[simp] theorem lenF_gT {ds : List PyData} : lenF [.gT ds] = some (.d (.int ds.length)) := rfl
@[simp] theorem lenF_lst {ds : List O} : lenF [.lst ds] = some (.d (.int ds.length)) := rfl
@[simp] theorem lenF_l {ds : List PyData} : lenF [.d (.list ds)] = some (.d (.int ds.length)) := rfl
@[simp] theorem lenF_t {ds : List PyData} : lenF [.d (.tuple ds)] = some (.d (.int ds.length)) := rfl
@[simp] theorem lenF_s {z : Str} : lenF [.d (.str z)] = if lenOk z.length = true then some (.d (.int z.length)) else none := by
  simp only [lenF, lenB]
  split
  · rename_i n e
    split at e
    · rename_i h; cases e; simp [h]
    · cases e
  · rename_i e
    split at e
    · cases e
    · rename_i h; simp [h]
theorem lenOk_of {n : Nat} (h : n ≤ 16777216) : lenOk n = true := decide_eq_true h
theorem atI_nat {α : Type} {xs : List α} {i : Int} (h0 : 0 ≤ i) (h1 : i < xs.length) : ∃ h : i.toNat < xs.length, atI xs i = some xs[i.toNat] := by
  have h : i.toNat < xs.length := by omega
  refine ⟨h, ?_⟩
  unfold atI ixN
  rw [if_pos h0, if_pos h1]
  simp [h]
theorem ixF_s {z : Str} {i : Int} : ixF [.d (.str z), .d (.int i)] = if lenOk z.length = true then (match atI z.cps.toList i with | some c => some (.d (.str ⟨#[c]⟩)) | none => none) else none := rfl
/-- one of a list that is looked at -/
theorem optW_ix {o : O} {ds : List PyData} {i : Int} {A : O → Prop} (e : asLT o = some ds) (h0 : 0 ≤ i) (h1 : i < ds.length) (k : ∀ x, x ∈ ds → A (.d x)) : optW (ixF [o, .d (.int i)]) A := by
  obtain ⟨h, q⟩ := atI_nat h0 h1
  have : ixF [o, .d (.int i)] = some (.d ds[i.toNat]) := by
    unfold ixF
    split
    · rename_i z j heq
      cases heq
      cases e
    · rename_i a j _ heq
      cases heq
      simp only [e, q]
    · rename_i h2
      exact (h2 _ _ rfl).elim
  rw [this]
  exact k _ (List.getElem_mem h)
theorem optW_ixS {z : Str} {i : Int} {A : O → Prop} (hz : z.length ≤ 16777216) (h0 : 0 ≤ i) (h1 : i < z.length) (k : ∀ c, c ∈ z.cps.toList → A (.d (.str ⟨#[c]⟩))) : optW (ixF [.d (.str z), .d (.int i)]) A := by
  rw [ixF_s]
  simp only [lenOk_of hz, if_true]
  obtain ⟨h, q⟩ := atI_nat (xs := z.cps.toList) h0 (by simpa [Str.length] using h1)
  rw [q]
  exact k _ (List.getElem_mem h)
theorem asLT_d {os : List O} {ds : List PyData} (h : allD os = some ds) : asLT (.lst os) = some ds := by simp [asLT, asL, h]
@[simp] theorem asLT_gL {ds : List PyData} : asLT (.gL ds) = some ds := rfl
@[simp] theorem asLT_gT {ds : List PyData} : asLT (.gT ds) = some ds := rfl
@[simp] theorem len_app (a b : Str) : (a ++ b).length = a.length + b.length := PySem.Str.length_append a b
theorem len_cut (z : Str) (lo hi : Option Int) : (cutS z lo hi).length ≤ z.length := by
  simp [cutS, Str.length]
  omega
theorem len_cutHi (z : Str) (n : Nat) : (cutS z none (some (n : Int))).length ≤ n := by
  have h : HT.sIx z.length z.length (some (n : Int)) ≤ n := by rw [HT.sIx_nat]; omega
  have h2 : ∀ (l : List Nat) (k : Nat), ((l.take k).toArray).size ≤ k := fun l k => by simp; omega
  refine Nat.le_trans (h2 _ _) ?_
  show _ - HT.sIx z.length 0 none ≤ n
  rw [HT.sIx_none]
  omega
@[simp] theorem slHi_s {z : Str} {i : Int} : slF false true [.d (.str z), .d (.int i)] = if lenOk z.length = true then some (.d (.str (cutS z none (some i)))) else none := rfl
@[simp] theorem slLo_s {z : Str} {i : Int} : slF true false [.d (.str z), .d (.int i)] = if lenOk z.length = true then some (.d (.str (cutS z (some i) none))) else none := rfl
@[simp] theorem slB_s {z : Str} {l h : Option Int} : slB (.d (.str z)) l h = if lenOk z.length = true then some (.d (.str (cutS z l h))) else none := rfl
@[simp] theorem eqF_s {y z : Str} : eqF [.d (.str y), .d (.str z)] = some (.d (.bool (y == z))) := rfl
@[simp] theorem neF_s {y z : Str} : neF [.d (.str y), .d (.str z)] = some (.d (.bool (!(y == z)))) := rfl
@[simp] theorem eqF_i {y z : Int} : eqF [.d (.int y), .d (.int z)] = some (.d (.bool (y == z))) := by
  simp [eqF, eqB, O.fz, SeqAt.shaped, PyData.eqv, PyData.canLay0, PyData.depth]
@[simp] theorem neF_i {y z : Int} : neF [.d (.int y), .d (.int z)] = some (.d (.bool (!(y == z)))) := by
  simp [neF, eqB, O.fz, SeqAt.shaped, PyData.eqv, PyData.canLay0, PyData.depth]
@[simp] theorem eqF_b {y z : Bool} : eqF [.d (.bool y), .d (.bool z)] = some (.d (.bool (y == z))) := by
  simp [eqF, eqB, O.fz, SeqAt.shaped, PyData.eqv, PyData.canLay0, PyData.depth]
section
variable {A : O → Gs → Prop} {AU : Unit → Gs → Prop} {B : Exn → Gs → Prop} {g : Gs} {m n : M O} {i : Nat}
@[simp] theorem wp_up : Wp (upM m g) A B = Wp (m g) (fun o g1 => match o with | .d (.str s) => decide (s.length ≤ 5592405) = true ∧ A (.d (.str (Txt.upper s))) g1 | _ => False) B := by
  simp only [upM, wp_bd, wp_asS, wp_gd, wp_ret]
  try rfl
@[simp] theorem wp_join : Wp (joinM m n g) A B = Wp (m g) (fun o g1 => match o with | .d (.str s) => Wp (n g1) (fun x g2 => optW (joinB s x) fun r => A r g2) B | _ => False) B := by
  simp only [joinM, wp_bd, wp_asS, wp_opt]
  try rfl
@[simp] theorem wp_ixSet {o : O} : Wp (ixSetM i m o g) AU B = match g[i]? with
    | some (some _) => Wp (m g) (fun oi g1 => match oi with
      | .d (.int k) => (match g1[i]? with
        | some (some (.lst os)) => optW (ixN os.length k) fun j => AU () (g1.set i (some (.lst (os.set j o))))
        | _ => False)
      | _ => False) B
    | _ => False := by
  unfold ixSetM
  cases q : g[i]? with
  | none => rfl
  | some x =>
    cases x with
    | none => rfl
    | some v =>
      simp only
      refine (wp_bd (m := m)).trans (congrArg (fun Z => Wp (m g) Z B) ?_)
      funext oi g1
      refine (wp_bd (m := asI oi)).trans ?_
      rw [wp_asI]
      split
      · cases g1[i]? with
        | none => rfl
        | some y =>
          cases y with
          | none => rfl
          | some y =>
            cases y with
            | lst os =>
              simp only
              cases ixN os.length _ <;> rfl
            | _ => rfl
      · first | rfl | (split <;> first | rfl | simp_all)
@[simp] theorem wp_app : Wp (appLM i m g) A B = match g[i]? with
    | some (some (.lst _)) => Wp (m g) (fun o g1 => match g1[i]? with
        | some (some (.lst os)) => os.length < 16777216 ∧ A (.d .none) (g1.set i (some (.lst (os ++ [o]))))
        | _ => False) B
    | _ => False := by
  unfold appLM
  cases q : g[i]? with
  | none => rfl
  | some x =>
    cases x with
    | none => rfl
    | some v =>
      cases v with
      | lst xs =>
        simp only [appM]
        refine (wp_bd (m := m)).trans (congrArg (fun Z => Wp (m g) Z B) ?_)
        funext o g1
        cases g1[i]? with
        | none => rfl
        | some y =>
          cases y with
          | none => rfl
          | some y =>
            cases y with
            | lst os =>
              simp only
              split
              · rename_i h; simp [Wp, h]
              · rename_i h; simp [Wp, h]
            | _ => rfl
      | _ => rfl
@[simp] theorem wp_isi {n : String} : Wp (isiM n m g) A B = Wp (m g) (fun o g1 => tyN o ≠ "" ∧ optW (kitB (tyN o) n) fun k => A (.d (.bool k)) g1) B := by
  unfold isiM
  refine (wp_bd (m := m)).trans (congrArg (fun Z => Wp (m g) Z B) ?_)
  funext o g1
  split
  · simp_all [Wp]
  · rename_i h
    simp only [h, not_false_eq_true, true_and, ne_eq]
    cases kitB (tyN o) n <;> rfl
end
@[simp] theorem fw_ok {r : O} {ps : List O} {A : O → List O → Prop} {B : Exn → Prop} : FW (.ok r ps) A B = A r ps := rfl
@[simp] theorem fw_bad {A : O → List O → Prop} {B : Exn → Prop} : FW .bad A B = False := rfl
def Bx (o : O) : Prop := ∃ c s : Int, o = .lst [.d (.int c), .d (.int s)]
def g_take : M Fl := (seqM (ifM (tstM (opM gtF (consM (opM ixF (consM (pkM 0) (consM (dM (.int 0)) (M.ret [])))) (consM (dM (.int 0)) (M.ret []))))) (seqM (asgM (opM modF (consM (opM ixF (consM (pkM 0) (consM (dM (.int 0)) (M.ret [])))) (consM (pkM 1) (M.ret [])))) (setM 2))
  (seqM (asgM (opM divF (consM (opM ixF (consM (pkM 0) (consM (dM (.int 0)) (M.ret [])))) (consM (pkM 1) (M.ret [])))) (ixSetM 0 (dM (.int 0))))
  (retM (mvM 2)))) (M.ret .next))
  (seqM (asgM (opM modF (consM (opM mulF (consM (opM ixF (consM (pkM 0) (consM (dM (.int 1)) (M.ret [])))) (consM (dM (.int 69623)) (M.ret [])))) (consM (dM (.int 2147483647)) (M.ret [])))) (setM 3))
  (seqM (asgM (opM addF (consM (opM modF (consM (opM addF (consM (opM mulF (consM (pkM 3) (consM (dM (.int 48271)) (M.ret [])))) (consM (dM (.int 30103)) (M.ret [])))) (consM (dM (.int 2147483629)) (M.ret [])))) (consM (dM (.int 1)) (M.ret [])))) (ixSetM 0 (dM (.int 1))))
  (retM (opM modF (consM (opM divF (consM (opM addF (consM (opM mulF (consM (pkM 3) (consM (dM (.int 2147483647)) (M.ret [])))) (consM (opM ixF (consM (pkM 0) (consM (dM (.int 1)) (M.ret [])))) (M.ret [])))) (consM (dM (.int 8191)) (M.ret [])))) (consM (pkM 1) (M.ret []))))))))
def f_take : Fn := runF 2 2 4 g_take
theorem ix2a {c s : Int} : ixF [.lst [.d (.int c), .d (.int s)], .d (.int 0)] = some (.d (.int c)) := by rfl
theorem ix2b {c s : Int} : ixF [.lst [.d (.int c), .d (.int s)], .d (.int 1)] = some (.d (.int s)) := by rfl
theorem fw_take {bx : O} {n : Int} (h : Bx bx) (h0 : 0 < n) (h1 : n < 18446744073709551616) {A : O → List O → Prop} {B : Exn → Prop} (k : ∀ (r : Int) (bx' : O), Bx bx' → 0 ≤ r → r < n → A (.d (.int r)) [bx', .d (.int n)]) :
    FW (f_take [bx, .d (.int n)]) A B := by
  obtain ⟨c, s, rfl⟩ := h
  simp [f_take, fw_run, g_take, ix2a, ix2b, isD, h0, h1, ixN, finF, optAll]
  split
  · exact k _ _ ⟨_, _, rfl⟩ (Int.emod_nonneg _ (by omega)) (Int.emod_lt_of_pos _ h0)
  · exact k _ _ ⟨_, _, rfl⟩ (Int.emod_nonneg _ (by omega)) (Int.emod_lt_of_pos _ h0)
end Z
namespace Z
open PySem PySem.Spec L2
section
variable {α : Type} {A : O → Gs → Prop} {AO : O → Prop} {AB : Bool → Gs → Prop} {AF : Fl → Gs → Prop} {AL : List O → Gs → Prop} {AU : Unit → Gs → Prop} {AR : List Arg → Gs → Prop} {AD : List PyData → Gs → Prop} {B : Exn → Gs → Prop} {g g' : Gs} {m n : M O} {ms : M (List O)} {i k : Nat} {o : O}
theorem z_pk (h : g[i]? = some (some o)) (k : A o g) : Wp (pkM i g) A B := by rw [wp_pk, h]; exact k
theorem z_mv (h : g[i]? = some (some o)) (e : g.set i none = g') (k : A o g') : Wp (mvM i g) A B := by subst e; rw [wp_mv, h]; exact k
theorem z_fz {x : PyData} (h : g[i]? = some (some (.d x))) (k : A (.d x) g) : Wp (fzM i g) A B := by rw [wp_fz, h]; exact k
theorem z_fzL {x : PyData} {xs : List O} (h : g[i]? = some (some (.lst xs))) (f : (O.lst xs).fz = some x) (e : g.set i (some (.d x)) = g') (k : A (.d x) g') : Wp (fzM i g) A B := by subst e; rw [wp_fz, h, fzW_lst, f]; exact k
theorem z_set (e : g.set i (some o) = g') (k : AU () g') : Wp (setM i o g) AU B := by subst e; exact k
theorem z_sl {ms : M (List Arg)} (h : g[i]? = some (some o)) (k : Wp (ms g) (fun as g2 => AR (.sl i :: as) g2) B) : Wp (slIn i ms g) AR B := by rw [wp_slIn, h]; exact k
theorem z_rng1 {i : Int} (h0 : -4611686018427387904 ≤ i := by omega) (h1 : i < 4611686018427387904 := by omega) (k : AD (intsF 0 i.toNat) g) : Wp (rng1M [.d (.int i)] g) AD B := by
  rw [wp_rng1]
  exact ⟨by simp [inRng, h0, h1], k⟩
def Bw (A : O → Gs → Prop) (as : List Arg) (n k : Nat) (g : Gs) (r : O) (ps : List O) : Prop := ps.length = k ∧ A r (giveA as (ps.take n) g)
def Cw (f : Fn) (dfs : List PyData) (A : O → Gs → Prop) (B : Exn → Gs → Prop) (as : List Arg) (g : Gs) : Prop := optW (takeA as g) fun p => FW (f (p.1 ++ dfs.map O.d)) (fun r ps => Bw A as p.1.length (p.1 ++ dfs.map O.d).length p.2 r ps) (fun x => B x p.2)
theorem z_call {f : Fn} {dfs : List PyData} {ms : M (List Arg)} (k : Wp (ms g) (fun as g1 => Cw f dfs A B as g1) B) : Wp (callM f dfs ms g) A B := by
  rw [wp_call]
  exact k
theorem z_cw {f : Fn} {dfs : List PyData} {as : List Arg} {os os' : List O} (ht : takeA as g = some (os, g')) (ho : os ++ dfs.map O.d = os') (k : FW (f os') (fun r ps => Bw A as os.length os'.length g' r ps) (fun x => B x g')) : Cw f dfs A B as g := by
  subst ho
  unfold Cw
  rw [ht]
  exact k
theorem z_fin {np : Nat} {os ps : List O} {A : O → List O → Prop} {B : Exn → Prop} (h : optAll (g.take np) = some ps) (k : A o (ps ++ os.drop np)) : FW (finF np os o g) A B := by
  unfold finF
  rw [h]
  exact k
theorem z_run {np na nN : Nat} {m : M Fl} {os : List O} {gs : Gs} {A : O → List O → Prop} {B : Exn → Prop} (h : os.length = na) (h2 : (os.drop np).all isD = true) (e : os.map some ++ List.replicate (nN - na) none = gs) (k : Wp (m gs)
    (fun fl g => match fl with
      | .next => FW (finF np os (.d .none) g) A B
      | .ret o => FW (finF np os o g) A B
      | _ => False) (fun x _ => B x)) : FW (runF np na nN m os) A B := by
  subst e
  rw [fw_run]
  exact ⟨⟨h, h2⟩, k⟩
variable {x y : Int} {s t : Str} {ds : List PyData} {os : List O}
theorem z_mulI (h : mulC x y = true := by first | exact mulC_l | exact mulC_r) (k : AO (.d (.int (x * y)))) : optW (mulF [.d (.int x), .d (.int y)]) AO := by rw [mulF_i, if_pos h]; exact k
theorem z_modI (h0 : 0 < y := by omega) (k : AO (.d (.int (x % y)))) : optW (modF [.d (.int x), .d (.int y)]) AO := by rw [modF_i, if_pos (by simp [h0])]; exact k
theorem z_powI (h : powC x y = true) (k : AO (.d (.int (x ^ y.toNat)))) : optW (powF [.d (.int x), .d (.int y)]) AO := by rw [powF_i, if_pos h]; exact k
theorem z_eqI (k : AO (.d (.bool (x == y)))) : optW (eqF [.d (.int x), .d (.int y)]) AO := by rw [eqF_i]; exact k
theorem z_eqS (k : AO (.d (.bool (s == t)))) : optW (eqF [.d (.str s), .d (.str t)]) AO := k
theorem z_addS (h : s.length + t.length ≤ 16777216) (k : AO (.d (.str (s ++ t)))) : optW (addF [.d (.str s), .d (.str t)]) AO := by rw [addF_s, if_pos (lenOk_of h)]; exact k
theorem z_lenS (h : s.length ≤ 16777216) (k : AO (.d (.int s.length))) : optW (lenF [.d (.str s)]) AO := by rw [lenF_s, if_pos (lenOk_of h)]; exact k
theorem z_slHi (h : s.length ≤ 16777216) (k : AO (.d (.str (cutS s none (some x))))) : optW (slF false true [.d (.str s), .d (.int x)]) AO := by rw [slHi_s, if_pos (lenOk_of h)]; exact k
theorem z_slLo (h : s.length ≤ 16777216) (k : AO (.d (.str (cutS s (some x) none)))) : optW (slF true false [.d (.str s), .d (.int x)]) AO := by rw [slLo_s, if_pos (lenOk_of h)]; exact k
theorem z_in {neg b : Bool} {o p : O} (h : inB o p = some b) (k : AO (.d (.bool (if neg then !b else b)))) : optW (inF neg [o, p]) AO := by
  unfold inF
  simp only [h]
  exact k
end
end Z
namespace Z
open PySem PySem.Spec L2
end Z
namespace Z
open PySem PySem.Spec L2
end Z
namespace Z
open PySem PySem.Spec L2
end Z
namespace Z
open PySem PySem.Spec PyProof.Rows L2
end Z
namespace Z
open PySem PySem.Spec L2
end Z
namespace Z
open PySem PySem.Spec L2
end Z
namespace Z
open PySem PySem.Spec L2
section
variable {A : O → Gs → Prop} {AO : O → Prop} {B : Exn → Gs → Prop} {g g' : Gs} {m n : M O} {i k : Nat} {o : O} {os : List O} {x y : Int} {s t : Str} {ds : List PyData}
theorem z_app (h : g[i]? = some (some (.lst os))) (q : Wp (m g) (fun o g1 => ∃ os1, g1[i]? = some (some (.lst os1)) ∧ os1.length < 16777216 ∧ A (.d .none) (g1.set i (some (.lst (os1 ++ [o]))))) B) : Wp (appLM i m g) A B := by
  rw [wp_app, h]
  refine q.mono (fun o g1 z => ?_) fun _ _ z => z
  obtain ⟨os1, e1, e2, z⟩ := z
  rw [e1]
  exact ⟨e2, z⟩
end
end Z
namespace G
open PySem PySem.Spec L2 Z
inductive Tst where
  | yes | no
  | ask (q : Str)
  | not (t : Tst)
  | and (a b : Tst)
  | or (a b : Tst)
inductive Err where
  | done
  | doo (p : Str)
  | often (e : Err)
  | whl (t : Tst) (e : Err)
  | thn (a b : Err)
  | iff (t : Tst) (a b : Err)
  | eth (a b : Err)
def Tst.d : Tst → PyData
  | .yes => .tuple [.str "yes"]
  | .no => .tuple [.str "no"]
  | .ask q => .tuple [.str "ask", .str q]
  | .not t => .tuple [.str "not", t.d]
  | .and a b => .tuple [.str "and", a.d, b.d]
  | .or a b => .tuple [.str "or", a.d, b.d]
def Err.d : Err → PyData
  | .done => .tuple [.str "done"]
  | .doo p => .tuple [.str "do", .str p]
  | .often e => .tuple [.str "often", e.d]
  | .whl t e => .tuple [.str "while", t.d, e.d]
  | .thn a b => .tuple [.str "then", a.d, b.d]
  | .iff t a b => .tuple [.str "if", t.d, a.d, b.d]
  | .eth a b => .tuple [.str "either", a.d, b.d]
def Tst.size : Tst → Nat
  | .not t => 1 + t.size
  | .and a b => 1 + a.size + b.size
  | .or a b => 1 + a.size + b.size
  | _ => 1
def Tst.deep : Tst → Nat
  | .not t => 1 + t.deep
  | .and a b => 1 + max a.deep b.deep
  | .or a b => 1 + max a.deep b.deep
  | _ => 1
def Err.size : Err → Nat
  | .often e => 1 + e.size
  | .whl _ e => 1 + e.size
  | .thn a b => 1 + a.size + b.size
  | .iff _ a b => 1 + a.size + b.size
  | .eth a b => 1 + a.size + b.size
  | _ => 1
def Err.deep : Err → Nat
  | .often e => 1 + e.deep
  | .whl _ e => 1 + e.deep
  | .thn a b => 1 + max a.deep b.deep
  | .iff _ a b => 1 + max a.deep b.deep
  | .eth a b => 1 + max a.deep b.deep
  | _ => 1
end G
namespace G
open PySem PySem.Spec L2 Z
def g_law_box : M Fl := (seqM (asgM (opM addF (consM (opM mulF (consM (dM (.int 7919)) (consM (pkM 1) (M.ret [])))) (consM (dM (.int 11)) (M.ret [])))) (setM 2))
  (seqM (ifM (tstM (opM ltF (consM (pkM 1) (consM (opM lenF (consM (pkM 0) (M.ret []))) (M.ret []))))) (asgM (opM ixF (consM (pkM 0) (consM (pkM 1) (M.ret [])))) (setM 2)) (ifM (tstM (opM gtF (consM (opM lenF (consM (pkM 0) (M.ret []))) (consM (dM (.int 0)) (M.ret []))))) (asgM (opM addF (consM (pkM 2) (consM (opM mulF (consM (opM modF (consM (opM ixF (consM (pkM 0) (consM (opM modF (consM (pkM 1) (consM (opM lenF (consM (pkM 0) (M.ret []))) (M.ret [])))) (M.ret [])))) (consM (dM (.int 2147483629)) (M.ret [])))) (consM (dM (.int 69623)) (M.ret [])))) (M.ret [])))) (setM 2)) (M.ret .next)))
  (seqM (asgM (opM addF (consM (opM modF (consM (opM addF (consM (opM mulF (consM (opM modF (consM (pkM 2) (consM (dM (.int 2147483629)) (M.ret [])))) (consM (dM (.int 48271)) (M.ret [])))) (consM (opM mulF (consM (dM (.int 40692)) (consM (pkM 1) (M.ret [])))) (M.ret [])))) (consM (dM (.int 2147483629)) (M.ret [])))) (consM (dM (.int 1)) (M.ret [])))) (setM 3))
  (seqM (ifM (tstM (opM ltF (consM (pkM 2) (consM (opM powF (consM (dM (.int 10)) (consM (dM (.int 18)) (M.ret [])))) (M.ret []))))) (asgM (dM (.int 0)) (setM 2)) (M.ret .next))
  (retM (lstM (consM (fzM 2) (consM (fzM 3) (M.ret [])))))))))
def f_law_box : Fn := runF 2 2 4 g_law_box
def g_law_take : M Fl := (seqM (ifM (tstM (opM gtF (consM (opM ixF (consM (pkM 0) (consM (dM (.int 0)) (M.ret [])))) (consM (dM (.int 0)) (M.ret []))))) (seqM (asgM (opM modF (consM (opM ixF (consM (pkM 0) (consM (dM (.int 0)) (M.ret [])))) (consM (pkM 1) (M.ret [])))) (setM 2))
  (seqM (asgM (opM divF (consM (opM ixF (consM (pkM 0) (consM (dM (.int 0)) (M.ret [])))) (consM (pkM 1) (M.ret [])))) (ixSetM 0 (dM (.int 0))))
  (retM (mvM 2)))) (M.ret .next))
  (seqM (asgM (opM modF (consM (opM mulF (consM (opM ixF (consM (pkM 0) (consM (dM (.int 1)) (M.ret [])))) (consM (dM (.int 69623)) (M.ret [])))) (consM (dM (.int 2147483647)) (M.ret [])))) (setM 3))
  (seqM (asgM (opM addF (consM (opM modF (consM (opM addF (consM (opM mulF (consM (pkM 3) (consM (dM (.int 48271)) (M.ret [])))) (consM (dM (.int 30103)) (M.ret [])))) (consM (dM (.int 2147483629)) (M.ret [])))) (consM (dM (.int 1)) (M.ret [])))) (ixSetM 0 (dM (.int 1))))
  (retM (opM modF (consM (opM divF (consM (opM addF (consM (opM mulF (consM (pkM 3) (consM (dM (.int 2147483647)) (M.ret [])))) (consM (opM ixF (consM (pkM 0) (consM (dM (.int 1)) (M.ret [])))) (M.ret [])))) (consM (dM (.int 8191)) (M.ret [])))) (consM (pkM 1) (M.ret []))))))))
def f_law_take : Fn := runF 2 2 4 g_law_take
def g_law_taken : M Fl := (seqM (asgM (lstM (consM (dM (.str "yes")) (consM (dM (.str "no")) (consM (dM (.str "not")) (consM (dM (.str "and")) (consM (dM (.str "or")) (consM (dM (.str "done")) (consM (dM (.str "then")) (consM (dM (.str "if")) (consM (dM (.str "while")) (consM (dM (.str "either")) (consM (dM (.str "often")) (consM (dM (.str "asks")) (consM (dM (.str "deeds")) (M.ret []))))))))))))))) (setM 0))
  (retM (opM addF (consM (pkM 0) (consM (lstM (consM (dM (.str "keeps")) (consM (dM (.str "makes")) (consM (dM (.str "rests")) (consM (dM (.str "idles")) (consM (dM (.str "still")) (consM (dM (.str "never")) (M.ret [])))))))) (M.ret []))))))
def f_law_taken : Fn := runF 0 0 1 g_law_taken
def g_law_name : M Fl := (seqM (asgM (dM (.str "abcdefghijklmnopqrstuvwxyz")) (setM 1))
  (seqM (asgM (joinM (dM (.str "")) (compM [6] (M.bd (consM (opM addF (consM (dM (.int 1)) (consM (callM f_law_take [] (slIn 0 (valA (dM (.int 5)) (M.ret [])))) (M.ret [])))) (M.ret [])) rng1M) (setM 6) yesM (opM ixF (consM (fzM 1) (consM (callM f_law_take [] (slIn 0 (valA (dM (.int 26)) (M.ret [])))) (M.ret [])))))) (setM 2))
  (seqM (ifM (tstM (opM eqF (consM (callM f_law_take [] (slIn 0 (valA (dM (.int 4)) (M.ret [])))) (consM (dM (.int 0)) (M.ret []))))) (seqM (asgM (opM ixF (consM (callM f_law_taken [] (M.ret [])) (consM (callM f_law_take [] (slIn 0 (valA (dM (.int 19)) (M.ret [])))) (M.ret [])))) (setM 3))
  (seqM (asgM (callM f_law_take [] (slIn 0 (valA (opM addF (consM (opM lenF (consM (pkM 3) (M.ret []))) (consM (dM (.int 1)) (M.ret [])))) (M.ret [])))) (setM 4))
  (seqM (asgM (lstM (consM (opM addF (consM (opM (slF false true) (consM (pkM 3) (consM (pkM 4) (M.ret [])))) (consM (opM (slF true false) (consM (pkM 3) (consM (opM addF (consM (pkM 4) (consM (dM (.int 1)) (M.ret [])))) (M.ret [])))) (M.ret [])))) (consM (opM addF (consM (opM addF (consM (opM (slF false true) (consM (pkM 3) (consM (pkM 4) (M.ret [])))) (consM (opM ixF (consM (pkM 2) (consM (dM (.int 0)) (M.ret [])))) (M.ret [])))) (consM (opM (slF true false) (consM (pkM 3) (consM (pkM 4) (M.ret [])))) (M.ret [])))) (consM (opM addF (consM (opM addF (consM (opM (slF false true) (consM (pkM 3) (consM (pkM 4) (M.ret [])))) (consM (opM ixF (consM (pkM 2) (consM (dM (.int 0)) (M.ret [])))) (M.ret [])))) (consM (opM (slF true false) (consM (pkM 3) (consM (opM addF (consM (pkM 4) (consM (dM (.int 1)) (M.ret [])))) (M.ret [])))) (M.ret [])))) (M.ret []))))) (setM 5))
  (asgM (opM (slF false true) (consM (opM ixF (consM (fzM 5) (consM (callM f_law_take [] (slIn 0 (valA (dM (.int 3)) (M.ret [])))) (M.ret [])))) (consM (dM (.int 5)) (M.ret [])))) (setM 2))))) (M.ret .next))
  (seqM (ifM (tstM (opM eqF (consM (callM f_law_take [] (slIn 0 (valA (dM (.int 12)) (M.ret [])))) (consM (dM (.int 0)) (M.ret []))))) (asgM (opM ixF (consM (lstM (consM (dM (.str "do")) (consM (dM (.str "ask")) (M.ret [])))) (consM (callM f_law_take [] (slIn 0 (valA (dM (.int 2)) (M.ret [])))) (M.ret [])))) (setM 2)) (M.ret .next))
  (seqM (ifM (orZ (tstM (opM eqF (consM (pkM 2) (consM (dM (.str "")) (M.ret []))))) (tstM (opM (inF false) (consM (fzM 2) (consM (callM f_law_taken [] (M.ret [])) (M.ret [])))))) (asgM (dM (.str "q")) (setM 2)) (M.ret .next))
  (retM (mvM 2)))))))
def f_law_name : Fn := runF 1 1 7 g_law_name
end G
namespace Z
open PySem PySem.Spec L2
class Stp (P : Prop) (Q : outParam Prop) : Prop where
  go : Q → P
/-- a side condition ahead of what is left -/
structure Sd (P Q : Prop) : Prop where
  mk ::
  l : P
  r : Q
class Get (g : Gs) (i : Nat) (o : outParam (Option O)) : Prop where
  get : g[i]? = some o
instance get0 {x : Option O} {g : Gs} : Get (x :: g) 0 x := ⟨rfl⟩
instance getS {x : Option O} {g : Gs} {n : Nat} {o : Option O} [h : Get g n o] : Get (x :: g) (n + 1) o := ⟨by rw [List.getElem?_cons_succ]; exact h.get⟩
class Put (g : Gs) (i : Nat) (o : Option O) (g' : outParam Gs) : Prop where
  put : g.set i o = g'
instance put0 {x o : Option O} {g : Gs} : Put (x :: g) 0 o (o :: g) := ⟨rfl⟩
instance putS {x o : Option O} {g g' : Gs} {n : Nat} [h : Put g n o g'] : Put (x :: g) (n + 1) o (x :: g') := ⟨by rw [List.set_cons_succ, h.put]⟩
class WipC (g : Gs) (vs : List Nat) (g' : outParam Gs) : Prop where
  eq : wipeG g vs = g'
instance wip0 {g : Gs} : WipC g [] g := ⟨rfl⟩
instance wipS {g g1 g2 : Gs} {v : Nat} {vs : List Nat} [h : WipC g vs g1] [p : Put g1 v none g2] : WipC g (v :: vs) g2 := ⟨by rw [wipeG, h.eq, p.put]⟩
class RstC (g1 : Gs) (vs : List Nat) (g3 : Gs) (g' : outParam Gs) : Prop where
  eq : restG g1 vs g3 = g'
instance rst0 {g1 g3 : Gs} : RstC g1 [] g3 g3 := ⟨rfl⟩
instance rstS {g1 g3 g4 w g' : Gs} {v : Nat} {vs : List Nat} {o : Option O} [h : WipC g1 vs w] [t : Get w v o] [p : Put g3 v o g4] [r : RstC g1 vs g4 g'] : RstC g1 (v :: vs) g3 g' :=
  ⟨by rw [restG, h.eq, t.get, Option.getD_some, p.put, r.eq]⟩
class AppC {α : Type} (a b : List α) (c : outParam (List α)) : Prop where
  eq : a ++ b = c
instance app0 {α : Type} {b : List α} : AppC [] b b := ⟨rfl⟩
instance appS {α : Type} {x : α} {a b c : List α} [h : AppC a b c] : AppC (x :: a) b (x :: c) := ⟨by rw [List.cons_append, h.eq]⟩
class LenC {α : Type} (a : List α) (n : outParam Nat) : Prop where
  eq : a.length = n
instance len0 {α : Type} : LenC ([] : List α) 0 := ⟨rfl⟩
instance lenS {α : Type} {x : α} {a : List α} {n : Nat} [h : LenC a n] : LenC (x :: a) (n + 1) := ⟨by rw [List.length_cons, h.eq]⟩
class SmC {α : Type} (a : List α) : Prop where
  ok : lenOk a.length = true
instance sm0 {α : Type} : SmC ([] : List α) := ⟨rfl⟩
instance sm2 {α : Type} {a b : α} : SmC [a, b] := ⟨rfl⟩
instance sm3 {α : Type} {a b c : α} : SmC [a, b, c] := ⟨rfl⟩
instance sm5 {α : Type} {a b c d e : α} : SmC [a, b, c, d, e] := ⟨rfl⟩
instance sm6 {α : Type} {a b c d e f : α} : SmC [a, b, c, d, e, f] := ⟨rfl⟩
instance sm7 {α : Type} {a b c d e f x : α} : SmC [a, b, c, d, e, f, x] := ⟨rfl⟩
/-- all data -/
class AllC (os : List O) (ds : outParam (List PyData)) : Prop where
  eq : allD os = some ds
instance all0 : AllC [] [] := ⟨rfl⟩
instance allS {x : PyData} {os : List O} {ds : List PyData} [h : AllC os ds] : AllC (.d x :: os) (x :: ds) := ⟨by rw [allD, h.eq]⟩
instance allM {ds : List PyData} : AllC (ds.map O.d) ds := ⟨allD_map ds⟩
class TupC (os : List O) (o : outParam O) : Prop where
  eq : mkTup os = o
instance tupA {os : List O} {ds : List PyData} [h : AllC os ds] : TupC os (.d (.tuple ds)) := ⟨by rw [mkTup, h.eq]⟩
mutual
class FzC (o : O) (x : outParam PyData) : Prop where
  eq : o.fz = some x
end
class FzL (os : List O) (ds : outParam (List PyData)) : Prop where
  eq : O.fzL os = some ds
theorem fzLd : ∀ ds : List PyData, O.fzL (ds.map O.d) = some ds
  | [] => rfl
  | x :: r => by simp [O.fzL, O.fz, fzLd r]
instance fz0 {x : PyData} : FzC (.d x) x := ⟨rfl⟩
instance fz1 {os : List O} {ds : List PyData} [h : FzL os ds] : FzC (.lst os) (.list ds) := ⟨by rw [O.fz, h.eq]⟩
instance fl0 : FzL [] [] := ⟨rfl⟩
instance flS {o : O} {x : PyData} {os : List O} {ds : List PyData} [a : FzC o x] [h : FzL os ds] : FzL (o :: os) (x :: ds) := ⟨by rw [O.fzL, a.eq, h.eq]⟩
instance flM {ds : List PyData} : FzL (ds.map O.d) ds := ⟨fzLd ds⟩
/-- data in a row -/
class LtC (o : O) (ds : outParam (List PyData)) : Prop where
  eq : asLT o = some ds
instance lt5 {os : List O} {ds : List PyData} [h : AllC os ds] : LtC (.lst os) ds := ⟨asLT_d h.eq⟩
theorem atI_lit {ds : List PyData} {n : Nat} {x : PyData} (h : ds[n]? = some x) : atI ds (n : Int) = some x := by
  have hl := (List.getElem?_eq_some_iff.mp h).1
  unfold atI ixN
  rw [if_pos (by omega), if_pos (by omega)]
  simp [h]
class StsC (ds : List PyData) (ss : outParam (List Str)) : Prop where
  eq : ds = ss.map PyData.str
instance stsM {ss : List Str} : StsC (ss.map PyData.str) ss := ⟨rfl⟩
theorem strsOf_map : ∀ ss : List Str, strsOf (ss.map PyData.str) = some ss
  | [] => rfl
  | x :: r => by simp [strsOf, strsOf_map r]
def SeqK (b : M Fl) (A : Fl → Gs → Prop) (B : Exn → Gs → Prop) : Fl → Gs → Prop
  | .next, g => Wp (b g) A B
  | .ret o, g => A (.ret o) g
  | .brk, g => A .brk g
  | .cnt, g => A .cnt g
def IfK (b : Bool) (P Q : Prop) : Prop := if b = true then P else Q
theorem IfK.dec {p : Prop} [Decidable p] {P Q : Prop} (h1 : p → P) (h2 : ¬ p → Q) : IfK (decide p) P Q := by
  unfold IfK
  split
  · exact h1 (of_decide_eq_true (by assumption))
  · rename_i h
    exact h2 fun p => h (decide_eq_true p)
theorem IfK.t {b : Bool} {P Q : Prop} (h : b = true) (k : P) : IfK b P Q := by subst h; exact k
theorem IfK.f {b : Bool} {P Q : Prop} (h : b = false) (k : Q) : IfK b P Q := by subst h; exact k
theorem IfK.dt {p : Prop} [Decidable p] {P Q : Prop} (h : p) (k : P) : IfK (decide p) P Q := IfK.t (decide_eq_true h) k
theorem IfK.df {p : Prop} [Decidable p] {P Q : Prop} (h : ¬ p) (k : Q) : IfK (decide p) P Q := IfK.f (decide_eq_false h) k
def TstK (A : Bool → Gs → Prop) : O → Gs → Prop
  | .d (.bool b), g => A b g
  | _, _ => False
def RunK (np : Nat) (os : List O) (A : O → List O → Prop) (B : Exn → Prop) : Fl → Gs → Prop
  | .next, g => FW (finF np os (.d .none) g) A B
  | .ret o, g => FW (finF np os o g) A B
  | _, _ => False
def ForK (set : O → M Unit) (body : M Fl) (r : List PyData) (A : Fl → Gs → Prop) (B : Exn → Gs → Prop) : Fl → Gs → Prop
  | .next, g => Wp (forM set body r g) A B
  | .cnt, g => Wp (forM set body r g) A B
  | .brk, g => A .next g
  | .ret o, g => A (.ret o) g
def LcG (vs : List Nat) (set : O → M Unit) (tst : M Bool) (elt : M O) (r : List PyData) (acc : List O) (A : List O → Gs → Prop) (B : Exn → Gs → Prop) (g : Gs) : Prop := Wp (lcM vs set tst elt r acc (wipeG g vs)) A B
def CmpK (A : O → Gs → Prop) (g1 : Gs) (vs : List Nat) (os : List O) (g3 : Gs) : Prop := A (.lst os) (restG g1 vs g3)
def CmpG (vs : List Nat) (set : O → M Unit) (tst : M Bool) (elt : M O) (A : O → Gs → Prop) (ds : List PyData) (g1 : Gs) : Prop := Wp (lcM vs set tst elt ds [] (wipeG g1 vs)) (CmpK A g1 vs) fun _ _ => False
def Bk (A : O → Gs → Prop) (as : List Arg) (k : Nat) (g : Gs) (r : O) (ps : List O) : Prop := ps.length = k ∧ A r (giveA as ps g)
section
variable {α β : Type} {A : O → Gs → Prop} {AB : Bool → Gs → Prop} {AF : Fl → Gs → Prop} {AL : List O → Gs → Prop} {AU : Unit → Gs → Prop} {AR : List Arg → Gs → Prop} {AD : List PyData → Gs → Prop} {B : Exn → Gs → Prop} {g g' g1 g2 g3 : Gs} {m n : M O} {ms : M (List O)} {i k : Nat} {o : O} {os : List O} {a b : M Fl} {c d : M Bool} {P Q : Prop}
instance s_seq : Stp (Wp (seqM a b g) AF B) (Wp (a g) (SeqK b AF B) B) := ⟨fun h => by
  rw [wp_seq]
  exact h.mono (fun fl g1 q => by cases fl <;> exact q) fun _ _ z => z⟩
instance s_seqN : Stp (SeqK b AF B .next g) (Wp (b g) AF B) := ⟨id⟩
instance s_asg {f : O → M Unit} : Stp (Wp (asgM m f g) AF B) (Wp (m g) (fun o g1 => Wp (f o g1) (fun _ g2 => AF .next g2) B) B) := ⟨fun h => by rw [wp_asg]; exact h⟩
instance s_retM : Stp (Wp (retM m g) AF B) (Wp (m g) (fun o g1 => AF (.ret o) g1) B) := ⟨fun h => by rw [wp_retM]; exact h⟩
instance s_drop : Stp (Wp (dropM m g) AF B) (Wp (m g) (fun o g1 => AF .next g1) B) := ⟨fun h => by rw [wp_drop]; exact h⟩
instance s_if {A : α → Gs → Prop} {m n : M α} : Stp (Wp (ifM c m n g) A B) (Wp (c g) (fun b g1 => IfK b (Wp (m g1) A B) (Wp (n g1) A B)) B) := ⟨fun h => by rw [wp_if]; exact h⟩
instance s_ifT : Stp (IfK true P Q) P := ⟨fun h => h⟩
instance s_ifN {b : Bool} : Stp (IfK (!b) P Q) (IfK b Q P) := ⟨fun h => by cases b <;> exact h⟩
instance s_tst : Stp (Wp (tstM m g) AB B) (Wp (m g) (TstK AB) B) := ⟨fun h => by
  rw [wp_tst]
  exact h.mono (fun o g1 q => by unfold TstK at q; split at q <;> first | exact q | exact q.elim) fun _ _ z => z⟩
instance s_tstB {b : Bool} : Stp (TstK AB (.d (.bool b)) g) (AB b g) := ⟨id⟩
instance s_op {f : List O → Option O} : Stp (Wp (opM f ms g) A B) (Wp (ms g) (fun os g1 => optW (f os) fun o => A o g1) B) := ⟨fun h => by rw [wp_op]; exact h⟩
instance s_cons : Stp (Wp (consM m ms g) AL B) (Wp (m g) (fun o g1 => Wp (ms g1) (fun os g2 => AL (o :: os) g2) B) B) := ⟨fun h => by rw [wp_cons]; exact h⟩
instance s_ret {A : α → Gs → Prop} {x : α} : Stp (Wp (M.ret x g) A B) (A x g) := ⟨id⟩
instance s_bd {C : β → Gs → Prop} {m : M α} {f : α → M β} : Stp (Wp (M.bd m f g) C B) (Wp (m g) (fun x g1 => Wp (f x g1) C B) B) := ⟨fun h => by rw [wp_bd]; exact h⟩
instance s_d {x : PyData} : Stp (Wp (dM x g) A B) (A (.d x) g) := ⟨id⟩
instance s_pk [h : Get g i (some o)] : Stp (Wp (pkM i g) A B) (A o g) := ⟨fun k => z_pk h.get k⟩
instance s_mv [h : Get g i (some o)] [p : Put g i none g'] : Stp (Wp (mvM i g) A B) (A o g') := ⟨fun k => z_mv h.get p.put k⟩
/-- what is read as data -/
class FzG (g : Gs) (i : Nat) (o : O) (x : outParam PyData) (g' : outParam Gs) : Prop where
  go : ∀ {A : O → Gs → Prop} {B : Exn → Gs → Prop}, g[i]? = some (some o) → A (.d x) g' → Wp (fzM i g) A B
instance fzg0 {x : PyData} : FzG g i (.d x) x g := ⟨fun h k => z_fz h k⟩
instance fzg1 {x : PyData} [f : FzC (.lst os) x] [p : Put g i (some (.d x)) g'] : FzG g i (.lst os) x g' := ⟨fun h k => z_fzL h f.eq p.put k⟩
instance s_fz {x : PyData} [h : Get g i (some o)] [f : FzG g i o x g'] : Stp (Wp (fzM i g) A B) (A (.d x) g') := ⟨fun k => f.go h.get k⟩
instance s_set [p : Put g i (some o) g'] : Stp (Wp (setM i o g) AU B) (AU () g') := ⟨fun k => z_set p.put k⟩
def TupK (A : O → Gs → Prop) (os : List O) (g : Gs) : Prop := lenOk os.length = true ∧ A (mkTup os) g
def LstK (A : O → Gs → Prop) (os : List O) (g : Gs) : Prop := lenOk os.length = true ∧ A (.lst os) g
instance s_tup : Stp (Wp (tupM ms g) A B) (Wp (ms g) (TupK A) B) := ⟨fun h => by rw [wp_tup]; exact h⟩
instance s_tupE [s : SmC os] [t : TupC os o] : Stp (TupK A os g) (A o g) := ⟨fun h => ⟨s.ok, by rw [t.eq]; exact h⟩⟩
instance s_lst : Stp (Wp (lstM ms g) A B) (Wp (ms g) (LstK A) B) := ⟨fun h => by rw [wp_lst]; exact h⟩
instance s_lstE [s : SmC os] : Stp (LstK A os g) (A (.lst os) g) := ⟨fun h => ⟨s.ok, h⟩⟩
instance s_notZ : Stp (Wp (notZ c g) AB B) (Wp (c g) (fun b g1 => AB (!b) g1) B) := ⟨fun h => by rw [wp_notZ]; exact h⟩
instance s_orZ : Stp (Wp (orZ c d g) AB B) (Wp (c g) (fun b g1 => IfK b (AB true g1) (Wp (d g1) AB B)) B) := ⟨fun h => by rw [wp_orZ]; exact h⟩
instance s_valA {ms : M (List Arg)} : Stp (Wp (valA m ms g) AR B) (Wp (m g) (fun o g1 => Wp (ms g1) (fun as g2 => AR (.val o :: as) g2) B) B) := ⟨fun h => by rw [wp_valA]; exact h⟩
instance s_slIn {ms : M (List Arg)} [h : Get g i (some o)] : Stp (Wp (slIn i ms g) AR B) (Wp (ms g) (fun as g2 => AR (.sl i :: as) g2) B) := ⟨fun k => z_sl h.get k⟩
instance s_rng1 {x : Int} : Stp (Wp (rng1M [.d (.int x)] g) AD B) (Sd (-4611686018427387904 ≤ x ∧ x < 4611686018427387904) (AD (intsF 0 x.toNat) g)) := ⟨fun h => z_rng1 h.1.1 h.1.2 h.2⟩
instance s_forS {set : O → M Unit} {x : PyData} {r : List PyData} : Stp (Wp (forM set a (x :: r) g) AF B) (Wp (set (.d x) g) (fun _ g1 => Wp (a g1) (ForK set a r AF B) B) B) := ⟨fun h => by
  simp only [forM, wp_bd]
  refine h.mono (fun _ g1 q => q.mono (fun fl g2 z => ?_) fun _ _ z => z) fun _ _ z => z
  cases fl <;> exact z⟩
instance s_comp {vs : List Nat} {mi : M (List PyData)} {set : O → M Unit} : Stp (Wp (compM vs mi set c m g) A B) (Wp (mi g) (fun ds g1 => Sd (ds.length ≤ 16777216) (CmpG vs set c m A ds g1)) B) := ⟨fun h => by
  rw [wp_comp]
  exact h.mono (fun ds g1 q => ⟨lenOk_of q.1, q.2⟩) fun _ _ z => z⟩
instance s_cmpG {vs : List Nat} {set : O → M Unit} {ds : List PyData} [w : WipC g vs g2] : Stp (CmpG vs set c m A ds g) (Wp (lcM vs set c m ds [] g2) (CmpK A g vs) fun _ _ => False) := ⟨fun h => by
  unfold CmpG
  rw [w.eq]
  exact h⟩
instance s_cmpK {vs : List Nat} [w : RstC g1 vs g3 g'] : Stp (CmpK A g1 vs os g3) (A (.lst os) g') := ⟨fun h => by
  unfold CmpK
  rw [w.eq]
  exact h⟩
def LcX (vs : List Nat) (set : O → M Unit) (tst : M Bool) (elt : M O) (r : List PyData) (acc : List O) (A : List O → Gs → Prop) (B : Exn → Gs → Prop) (o : O) (g : Gs) : Prop := LcG vs set tst elt r (acc ++ [o]) A B g
instance s_lcS {vs : List Nat} {set : O → M Unit} {x : PyData} {r : List PyData} : Stp (Wp (lcM vs set c m (x :: r) os g) AL B) (Wp (set (.d x) g) (fun _ g1 => Wp (c g1) (fun b g2 => IfK b (Wp (m g2) (LcX vs set c m r os AL B) B) (LcG vs set c m r os AL B g2)) B) B) := ⟨fun h => by
  simp only [lcM, wp_bd]
  refine h.mono (fun _ g1 q => q.mono (fun b g2 z => ?_) fun _ _ z => z) fun _ _ z => z
  cases b with
  | false => exact z
  | true => exact (wp_bd (m := m)).mpr z⟩
instance s_yes : Stp (Wp (yesM g) AB B) (AB true g) := ⟨fun h => h⟩
class TakC (as : List Arg) (g : Gs) (os : outParam (List O)) (g' : outParam Gs) : Prop where
  eq : takeA as g = some (os, g')
instance tak0 : TakC [] g [] g := ⟨rfl⟩
instance takV {as : List Arg} [h : TakC as g os g'] : TakC (.val o :: as) g (o :: os) g' := ⟨by rw [takeA, h.eq]⟩
class TakO (as : List Arg) (i : Nat) (o : O) (g : Gs) (os : outParam (List O)) (g' : outParam Gs) : Prop where
  eq : g[i]? = some (some o) → takeA (.sl i :: as) g = some (o :: os, g')
instance takD {as : List Arg} {x : PyData} [t : TakC as g os g'] : TakO as i (.d x) g os g' := ⟨fun h => by rw [takeA, h]; simp only [t.eq]⟩
instance takL {as : List Arg} {x : List O} [p : Put g i none g1] [t : TakC as g1 os g'] : TakO as i (.lst x) g os g' := ⟨fun h => by rw [takeA, h]; simp only [p.put, t.eq]⟩
instance takGL {as : List Arg} {x : List PyData} [p : Put g i none g1] [t : TakC as g1 os g'] : TakO as i (.gL x) g os g' := ⟨fun h => by rw [takeA, h]; simp only [p.put, t.eq]⟩
instance takS {as : List Arg} [h : Get g i (some o)] [t : TakO as i o g os g'] : TakC (.sl i :: as) g (o :: os) g' := ⟨t.eq h.get⟩
class GivC (as : List Arg) (ps : List O) (g : Gs) (g' : outParam Gs) : Prop where
  eq : giveA as ps g = g'
instance giv0 {ps : List O} : GivC [] ps g g := ⟨by cases ps <;> rfl⟩
instance givV {as : List Arg} {ps : List O} {x : O} [h : GivC as ps g g'] : GivC (.val o :: as) (x :: ps) g g' := ⟨by rw [giveA, h.eq]⟩
class GivO (i : Nat) (o : O) (p : Option O) (g : Gs) (g' : outParam Gs) : Prop where
  eq : g[i]? = some p → (match g[i]? with | some none => g.set i (some o) | _ => g) = g'
instance givN [p : Put g i (some o) g'] : GivO i o none g g' := ⟨fun h => by rw [h]; exact p.put⟩
instance givSm {p : O} : GivO i o (some p) g g := ⟨fun h => by rw [h]⟩
instance givS {as : List Arg} {ps : List O} {p : Option O} [h : Get g i p] [q : GivO i o p g g1] [r : GivC as ps g1 g'] : GivC (.sl i :: as) (o :: ps) g g' := ⟨Eq.trans (show giveA (.sl i :: as) (o :: ps) g = giveA as ps g1 from congrArg (giveA as ps) (q.eq h.get)) r.eq⟩
instance s_call {f : Fn} {dfs : List PyData} {ms : M (List Arg)} : Stp (Wp (callM f dfs ms g) A B) (Wp (ms g) (fun as g1 => Cw f dfs A B as g1) B) := ⟨fun k => z_call k⟩
theorem takeA_len : ∀ {as : List Arg} {g g' : Gs} {os : List O}, takeA as g = some (os, g') → os.length = as.length
  | [], _, _, _, h => by simp only [takeA, Option.some.injEq, Prod.mk.injEq] at h; rw [← h.1]; rfl
  | .val o :: r, g, g', os, h => by
    simp only [takeA] at h
    split at h
    · rename_i q
      simp only [Option.some.injEq, Prod.mk.injEq] at h
      rw [← h.1, List.length_cons, List.length_cons, takeA_len q]
    · cases h
  | .sl i :: r, g, g', os, h => by
    simp only [takeA] at h
    split at h
    · split at h
      · rename_i q
        simp only [Option.some.injEq, Prod.mk.injEq] at h
        rw [← h.1, List.length_cons, List.length_cons, takeA_len q]
      · cases h
    · split at h
      · rename_i q
        simp only [Option.some.injEq, Prod.mk.injEq] at h
        rw [← h.1, List.length_cons, List.length_cons, takeA_len q]
      · cases h
    · cases h
theorem giveA_take : ∀ {as : List Arg} {ps : List O} {g : Gs}, giveA as (ps.take as.length) g = giveA as ps g
  | [], ps, g => by cases ps <;> simp [giveA]
  | .val o :: r, [], g => rfl
  | .val o :: r, p :: ps, g => by simp only [List.length_cons, List.take_succ_cons, giveA, giveA_take (as := r)]
  | .sl i :: r, [], g => rfl
  | .sl i :: r, p :: ps, g => by simp only [List.length_cons, List.take_succ_cons, giveA, giveA_take (as := r)]
class DfsC (os : List O) (dfs : List PyData) (os' : outParam (List O)) : Prop where
  eq : os ++ dfs.map O.d = os'
instance dfs0 : DfsC os [] os := ⟨by simp⟩
instance s_cw {f : Fn} {dfs : List PyData} {as : List Arg} {os' : List O} [t : TakC as g os g'] [d : DfsC os dfs os'] [l : LenC os' k] : Stp (Cw f dfs A B as g) (FW (f os') (Bk A as k g') (fun x => B x g')) := ⟨fun h =>
  z_cw t.eq d.eq (h.mono (fun r ps q => by
    refine ⟨l.eq ▸ q.1, ?_⟩
    rw [takeA_len t.eq, giveA_take]
    exact q.2) fun _ z => z)⟩
instance s_bk {as : List Arg} {ps : List O} {r : O} [l : LenC ps k] [q : GivC as ps g g'] : Stp (Bk A as k g r ps) (A r g') := ⟨fun h => ⟨l.eq, by rw [q.eq]; exact h⟩⟩
class TopC (np : Nat) (g : Gs) (ps : outParam (List O)) : Prop where
  eq : optAll (g.take np) = some ps
instance top0 : TopC 0 g [] := ⟨by simp [optAll]⟩
instance topS {ps : List O} [h : TopC k g ps] : TopC (k + 1) (some o :: g) (o :: ps) := ⟨by simp only [List.take_succ_cons, optAll, h.eq]⟩
class DrpC (np : Nat) (os : List O) (os' : outParam (List O)) : Prop where
  eq : os.drop np = os'
instance drp0 : DrpC 0 os os := ⟨rfl⟩
instance drpS {os' : List O} [h : DrpC k os os'] : DrpC (k + 1) (o :: os) os' := ⟨by rw [List.drop_succ_cons, h.eq]⟩
instance s_fin {np : Nat} {ps dr rs : List O} {A : O → List O → Prop} {B : Exn → Prop} [t : TopC np g ps] [d : DrpC np os dr] [p : AppC ps dr rs] : Stp (FW (finF np os o g) A B) (A o rs) := ⟨fun h => z_fin t.eq (by rw [d.eq, p.eq]; exact h)⟩
instance s_runR {np : Nat} {A : O → List O → Prop} {B : Exn → Prop} : Stp (RunK np os A B (.ret o) g) (FW (finF np os o g) A B) := ⟨id⟩
class RunC (na nN : Nat) (os : List O) (g : outParam Gs) : Prop where
  len : os.length = na
  eq : os.map some ++ List.replicate (nN - na) none = g
instance run00 : RunC 0 0 [] [] := ⟨rfl, rfl⟩
instance run0S [h : RunC 0 k [] g] : RunC 0 (k + 1) [] (none :: g) := ⟨rfl, by
  have := h.eq
  simp only [List.map_nil, Nat.sub_zero, List.nil_append] at this ⊢
  rw [List.replicate_succ, this]⟩
instance runSS {na nN : Nat} [h : RunC na nN os g] : RunC (na + 1) (nN + 1) (o :: os) (some o :: g) := ⟨by rw [List.length_cons, h.len], by
  have := h.eq
  rw [Nat.add_sub_add_right, List.map_cons, List.cons_append, this]⟩
class AdC (os : List O) : Prop where
  eq : os.all isD = true
instance ad0 : AdC [] := ⟨rfl⟩
theorem fwRun {np na nN : Nat} {dr : List O} {mf : M Fl} {A : O → List O → Prop} {B : Exn → Prop} [r : RunC na nN os g] [d : DrpC np os dr] [e : AdC dr] (k : Wp (mf g) (RunK np os A B) (fun x _ => B x)) : FW (runF np na nN mf os) A B :=
  z_run r.len (by rw [d.eq]; exact e.eq) r.eq (k.mono (fun fl g q => by cases fl <;> exact q) fun _ _ z => z)
instance s_run {np na nN : Nat} {dr : List O} {mf : M Fl} {A : O → List O → Prop} {B : Exn → Prop} [r : RunC na nN os g] [d : DrpC np os dr] [e : AdC dr] : Stp (FW (runF np na nN mf os) A B) (Wp (mf g) (RunK np os A B) (fun x _ => B x)) := ⟨fun k => fwRun k⟩
variable {AO : O → Prop} {x y : Int} {s t : Str} {ds es : List PyData}
instance o_addI : Stp (optW (addF [.d (.int x), .d (.int y)]) AO) (AO (.d (.int (x + y)))) := ⟨id⟩
instance o_addS : Stp (optW (addF [.d (.str s), .d (.str t)]) AO) (Sd (s.length + t.length ≤ 16777216) (AO (.d (.str (s ++ t))))) := ⟨fun h => z_addS h.1 h.2⟩
instance o_mulI : Stp (optW (mulF [.d (.int x), .d (.int y)]) AO) (Sd (mulC x y = true) (AO (.d (.int (x * y))))) := ⟨fun h => z_mulI h.1 h.2⟩
instance o_modI : Stp (optW (modF [.d (.int x), .d (.int y)]) AO) (Sd (0 < y) (AO (.d (.int (x % y))))) := ⟨fun h => z_modI h.1 h.2⟩
instance o_powI : Stp (optW (powF [.d (.int x), .d (.int y)]) AO) (Sd (powC x y = true) (AO (.d (.int (x ^ y.toNat))))) := ⟨fun h => z_powI h.1 h.2⟩
theorem powC_of {x y : Int} (h : 0 ≤ y ∧ y ≤ 1000000 ∧ x.natAbs < 18446744073709551616) : powC x y = true := by simp [powC, h.1, h.2.1, h.2.2]
instance o_ltI : Stp (optW (ltF [.d (.int x), .d (.int y)]) AO) (AO (.d (.bool (decide (x < y))))) := ⟨id⟩
instance o_gtI : Stp (optW (gtF [.d (.int x), .d (.int y)]) AO) (AO (.d (.bool (decide (y < x))))) := ⟨id⟩
theorem beqd {α : Type} [BEq α] [LawfulBEq α] [DecidableEq α] {x y : α} : (x == y) = decide (x = y) := by
  by_cases h : x = y
  · subst h; simp
  · rw [decide_eq_false h]; simpa using h
instance o_eqI : Stp (optW (eqF [.d (.int x), .d (.int y)]) AO) (AO (.d (.bool (decide (x = y))))) := ⟨fun h => z_eqI (by rw [beqd]; exact h)⟩
instance o_eqS : Stp (optW (eqF [.d (.str s), .d (.str t)]) AO) (AO (.d (.bool (decide (s = t))))) := ⟨fun h => z_eqS (by rw [beqd]; exact h)⟩
instance o_lenS : Stp (optW (lenF [.d (.str s)]) AO) (Sd (s.length ≤ 16777216) (AO (.d (.int s.length)))) := ⟨fun h => z_lenS h.1 h.2⟩
instance o_lenG : Stp (optW (lenF [.gL ds]) AO) (AO (.d (.int ds.length))) := ⟨id⟩
instance o_slHi : Stp (optW (slF false true [.d (.str s), .d (.int x)]) AO) (Sd (s.length ≤ 16777216) (AO (.d (.str (cutS s none (some x)))))) := ⟨fun h => z_slHi h.1 h.2⟩
instance o_slLo : Stp (optW (slF true false [.d (.str s), .d (.int x)]) AO) (Sd (s.length ≤ 16777216) (AO (.d (.str (cutS s (some x) none))))) := ⟨fun h => z_slLo h.1 h.2⟩
theorem eqv_str {s t : Str} : PyData.eqv (.str s) (.str t) = decide (s = t) := by
  rw [← beqd]; rfl
theorem any_str {t : Str} : ∀ {ss : List Str}, ((ss.map PyData.str).any fun z => PyData.eqv z (.str t)) = decide (t ∈ ss)
  | [] => by simp
  | s :: r => by
    rw [List.map_cons, List.any_cons, any_str, eqv_str]
    by_cases h : s = t
    · simp [h]
    · have h' : ¬ t = s := fun e => h e.symm
      simp [h, h']
theorem flat_str : ∀ {ss : List Str}, (ss.map PyData.str).all flatD = true
  | [] => rfl
  | s :: r => by rw [List.map_cons, List.all_cons, flat_str]; rfl
theorem o_inSG {ss : List Str} {neg : Bool} [l : LtC o ds] [q : StsC ds ss] (h : AO (.d (.bool (if neg then !decide (t ∈ ss) else decide (t ∈ ss))))) : optW (inF neg [.d (.str t), o]) AO := by
  refine z_in (b := decide (t ∈ ss)) ?_ h
  have h1 := l.eq
  have h2 : inB (.d (.str t)) o = match asLT o with
    | some ds => if flatD (.str t) = true ∧ ds.all flatD = true then some (ds.any fun z => PyData.eqv z (.str t)) else none
    | none => none := by
    cases o with
    | d z => cases z <;> first | (simp [asLT, asL, asT] at h1; done) | rfl
    | _ => first | (simp [asLT, asL, asT] at h1; done) | rfl
  rw [h2, h1, q.eq]
  simp only [flat_str, any_str]
  rfl
instance o_inS {ss : List Str} [l : LtC o ds] [q : StsC ds ss] : Stp (optW (inF false [.d (.str t), o]) AO) (AO (.d (.bool (decide (t ∈ ss))))) := ⟨fun h => o_inSG (neg := false) h⟩
end
end Z
namespace Z
open PySem PySem.Spec L2
section
variable {A : O → Gs → Prop} {AF : Fl → Gs → Prop} {B : Exn → Gs → Prop} {g g' : Gs} {m n : M O} {i : Nat} {o : O} {os : List O} {a b : M Fl} {AO : O → Prop} {x : Int} {ds es : List PyData}
def JnK (I : Gs → Prop) (A : Fl → Gs → Prop) : Fl → Gs → Prop
  | .next, g => I g
  | .ret o, g => A (.ret o) g
  | .brk, g => A .brk g
  | .cnt, g => A .cnt g
instance s_jnN {I : Gs → Prop} : Stp (JnK I AF .next g) (I g) := ⟨id⟩
/-- what holds behind the first statement, however it was left -/
theorem wp_jn (I : Gs → Prop) (h1 : Wp (a g) (JnK I AF) B) (h2 : ∀ g, I g → Wp (b g) AF B) : Wp (seqM a b g) AF B := by
  refine Stp.go (h1.mono (fun fl g q => ?_) fun _ _ z => z)
  cases fl with
  | next => exact h2 g q
  | ret o => exact q
  | brk => exact q
  | cnt => exact q
theorem isJn {c : M Bool} {p q : M Fl} (h : Wp (seqM (ifM c p q) a g) AF B) : Wp (seqM (ifM c p q) a g) AF B := h
def AppK (i : Nat) (A : O → Gs → Prop) (o : O) (g : Gs) : Prop := ∃ os1, g[i]? = some (some (.lst os1)) ∧ os1.length < 16777216 ∧ A (.d .none) (g.set i (some (.lst (os1 ++ [o]))))
instance s_app [h : Get g i (some (.lst os))] : Stp (Wp (appLM i m g) A B) (Wp (m g) (AppK i A) B) := ⟨fun k => z_app h.get k⟩
class SnC (os : List O) (o : O) (os' : outParam (List O)) : Prop where
  eq : os ++ [o] = os'
instance (priority := 900) snD : SnC os o (os ++ [o]) := ⟨rfl⟩
instance s_appK {os' : List O} [h : Get g i (some (.lst os))] [s : SnC os o os'] [p : Put g i (some (.lst os')) g'] : Stp (AppK i A o g) (Sd (os.length < 16777216) (A (.d .none) g')) := ⟨fun k => ⟨os, h.get, k.1, by rw [s.eq, p.put]; exact k.2⟩⟩
variable {AU : Unit → Gs → Prop}
variable {s : Str}
def AsSK (A : Str → Gs → Prop) : O → Gs → Prop
  | .d (.str x), g => A x g
  | _, _ => False
instance s_asSK {A : Str → Gs → Prop} : Stp (AsSK A (.d (.str s)) g) (A s g) := ⟨id⟩
instance s_join : Stp (Wp (joinM m n g) A B) (Wp (m g) (AsSK fun s g1 => Wp (n g1) (fun o g2 => optW (joinB s o) fun r => A r g2) B) B) := ⟨fun k => by
  unfold joinM
  refine (wp_bd (m := m)).mpr (k.mono (fun oi g1 q => ?_) fun _ _ z => z)
  refine (wp_bd (m := asS oi)).mpr ?_
  rw [wp_asS]
  unfold AsSK at q
  split at q
  · refine (wp_bd (m := n)).mpr (q.mono (fun o g2 q => ?_) fun _ _ z => z)
    rw [wp_opt]
    exact q
  · exact q.elim⟩
instance o_join {ss : List Str} [l : LtC o ds] [q : StsC ds ss] : Stp (optW (joinB s o) AO) (Sd ((ss.map (·.length)).sum + ss.length * s.length ≤ 16777216) (AO (.d (.str (Txt.join s ss))))) := ⟨fun k => by
  have e : joinB s o = some (.d (.str (Txt.join s ss))) := by
    have := lenOk_of k.1
    simp only [joinB, l.eq, q.eq, strsOf_map, this, if_true]
  rw [e]
  exact k.2⟩
end
end Z
namespace Z
open PySem PySem.Spec L2
abbrev NoB : Exn → Gs → Prop := fun _ _ => False
def ForI {ι : Type} (I : List ι → Gs → Prop) (r : List ι) (A : Fl → Gs → Prop) : Fl → Gs → Prop
  | .next, g => I r g
  | .cnt, g => I r g
  | .brk, g => A .next g
  | .ret o, g => A (.ret o) g
section
variable {ι : Type} {AF : Fl → Gs → Prop} {AL : List O → Gs → Prop} {B : Exn → Gs → Prop} {g g' : Gs} {m : M O} {o : O} {os : List O} {a : M Fl} {c : M Bool} {set : O → M Unit} {vs : List Nat}
instance s_foN {I : List ι → Gs → Prop} {r : List ι} : Stp (ForI I r AF .next g) (I r g) := ⟨id⟩
/-- a comprehension that changes no name but the box: what comes are things of a kind -/
def LcB {κ : Type} (e : κ → PyData) (P : κ → Prop) (G : Gs → Prop) (vs : List Nat) (o : O) (g : Gs) : Prop := ∃ z, o = .d (e z) ∧ P z ∧ G (wipeG g vs)
theorem wp_lcB {κ : Type} (e : κ → PyData) (P : κ → Prop) (G : Gs → Prop) (he : ∀ (l : List κ) g, l.length = ds.length → (∀ z ∈ l, P z) → G g → AL ((l.map e).map O.d) g)
    (hs : ∀ d ∈ ds, ∀ g, G g → Wp (set (.d d) g) (fun _ g1 => Wp (c g1) (fun b g2 => IfK b (Wp (m g2) (LcB e P G vs) NoB) False) NoB) NoB) {g : Gs} (h : G g) : Wp (lcM vs set c m ds [] g) AL NoB := by
  have main : ∀ (r : List PyData) (l : List κ) (g : Gs), (∀ d ∈ r, d ∈ ds) → l.length + r.length = ds.length → (∀ z ∈ l, P z) → G g → Wp (lcM vs set c m r ((l.map e).map O.d) g) AL NoB := by
    intro r
    induction r with
    | nil => exact fun l g _ hl hp hg => he l g (by simpa using hl) hp hg
    | cons x r ih =>
      intro l g hm hl hp hg
      refine Stp.go ((hs x (hm x (by simp)) g hg).mono (fun _ g1 q => q.mono (fun b g2 z => ?_) fun _ _ z => z) fun _ _ z => z)
      cases b with
      | false => exact z.elim
      | true =>
        refine Wp.mono z (fun o g3 z => ?_) fun _ _ z => z
        obtain ⟨w, rfl, hw, hg3⟩ := z
        have := ih (l ++ [w]) (wipeG g3 vs) (fun d m => hm d (by simp [m])) (by simp at hl ⊢; omega) (by simpa [or_imp, forall_and] using ⟨hp, hw⟩) hg3
        simpa [LcX, LcG] using this
  exact main ds [] g (fun d m => m) (by simp) (by simp) h
/-- a comprehension that changes nothing: each thing looked at by itself -/
def LcP (o' : O) (g0 : Gs) (vs : List Nat) (o : O) (g : Gs) : Prop := o = o' ∧ wipeG g vs = g0
instance s_lcP {o : O} [w : WipC g vs g'] : Stp (LcP o g' vs o g) True := ⟨fun _ => ⟨rfl, w.eq⟩⟩
theorem wp_lcF (e : ι → PyData) (f : ι → O) : ∀ {l : List ι} {acc : List O} {g : Gs}
    (hs : ∀ x ∈ l, Wp (set (.d (e x)) g) (fun _ g1 => Wp (c g1) (fun b g2 => IfK b (Wp (m g2) (LcP (f x) g vs) NoB) False) NoB) NoB)
    (k : AL (acc ++ l.map f) g), Wp (lcM vs set c m (l.map e) acc g) AL NoB
  | [], acc, g, hs, k => by
    show AL acc g
    simpa using k
  | x :: r, acc, g, hs, k => by
    rw [List.map_cons]
    refine Stp.go ((hs x (by simp)).mono (fun _ g1 q => q.mono (fun b g2 z => ?_) fun _ _ z => z) fun _ _ z => z)
    cases b with
    | false => exact z.elim
    | true =>
      refine Wp.mono z (fun o g3 z => ?_) fun _ _ z => z
      obtain ⟨rfl, e3⟩ := z
      show Wp (lcM vs set c m (r.map e) (acc ++ [f x]) (wipeG g3 vs)) AL NoB
      rw [e3]
      exact wp_lcF e f (fun y hy => hs y (by simp [hy])) (by simpa using k)
end
end Z
namespace Z
open PySem PySem.Spec L2
def L (s : Str) : List Nat := s.cps.toList
theorem L_len (s : Str) : (L s).length = s.length := by simp [L, Str.length]
theorem L_app (s t : Str) : L (s ++ t) = L s ++ L t := by
  show (s.cps ++ t.cps).toList = _
  simp [L]
theorem L_ext {s t : Str} (h : L s = L t) : s = t := by
  cases s; cases t
  simpa [L] using h
theorem L_one (c : Nat) : L ⟨#[c]⟩ = [c] := rfl
theorem L_cut (s : Str) (lo hi : Option Int) : L (cutS s lo hi) = cutD (L s) lo hi := by
  simp [L, cutS, cutD, Str.length]
theorem L_join (s : Str) : ∀ l : List Str, L (Txt.join s l) = ((l.map L).intersperse (L s)).flatten := by
  intro l
  show L (Builtin.Str.glued s l) = _
  rw [StrLaws.glued_eq_join]
  induction l with
  | nil => rfl
  | cons a r ih =>
    cases r with
    | nil => simp [Str.join]
    | cons b r =>
      rw [Str.join, L_app, L_app, ih]
      simp [List.intersperse]
      intro h; cases h
theorem L_join0 {s : Str} (h : L s = []) (l : List Str) : L (Txt.join s l) = (l.map L).flatten := by
  rw [L_join, h]
  induction l with
  | nil => rfl
  | cons a r ih =>
    cases r with
    | nil => simp
    | cons b r => simpa [List.intersperse] using ih
theorem cutD_sub {α : Type} (l : List α) (lo hi : Option Int) : ∀ x ∈ cutD l lo hi, x ∈ l := fun x h => List.mem_of_mem_drop (List.mem_of_mem_take h)
end Z
namespace Z
open PySem PySem.Spec L2
section
variable {A : O → Gs → Prop} {AU : Unit → Gs → Prop} {B : Exn → Gs → Prop} {g g' : Gs} {m n : M O} {i : Nat} {o : O} {os : List O} {AO : O → Prop} {x : Int} {ds es : List PyData} {d : PyData}
/-- a branch whose test changes nothing, by what the test tells -/
def CndK (v : Bool) (g : Gs) (b : Bool) (g' : Gs) : Prop := b = v ∧ g' = g
theorem CndK.mk {v b : Bool} {g : Gs} (h : b = v) : CndK v g b g := ⟨h, rfl⟩
end
end Z
namespace G
open PySem PySem.Spec L2 Z
local macro_rules | `(tactic| bv_omega) => `(tactic| repeat (first | with_reducible refine Stp.go ?_ | ((with_reducible refine Sd.mk ?_ ?_); focus (first | assumption | omega | exact Nat.zero_le _ | exact mulC_l | exact mulC_r | (simp only [List.length_cons, List.length_nil, List.length_map, List.length_append, Z.len_app]; omega) | (simp only [List.length_map, List.length_append, List.length_cons, List.length_nil, Z.intsF_len] at *; omega) | with_unfolding_all exact rfl | (refine powC_of ?_; omega) | assumption | exact List.mem_cons_self)) | with_reducible refine IfK.dt (by decide) ?_ | with_reducible refine IfK.df (by decide) ?_))
local macro_rules | `(tactic| array_get_dec) => `(tactic| repeat ((fail_if_success (with_reducible refine isJn ?_)); (first | with_reducible refine Stp.go ?_ | ((with_reducible refine Sd.mk ?_ ?_); focus (first | assumption | omega | exact Nat.zero_le _ | exact mulC_l | exact mulC_r | (simp only [List.length_cons, List.length_nil, List.length_map, List.length_append, Z.len_app]; omega) | (simp only [List.length_map, List.length_append, List.length_cons, List.length_nil, Z.intsF_len] at *; omega) | with_unfolding_all exact rfl | (refine powC_of ?_; omega) | assumption | exact List.mem_cons_self)) | with_reducible refine IfK.dt (by decide) ?_ | with_reducible refine IfK.df (by decide) ?_)))
local macro_rules | `(tactic| array_mem_dec) => `(tactic| (repeat' (first | (first | with_reducible refine Stp.go ?_ | ((with_reducible refine Sd.mk ?_ ?_); focus (first | assumption | omega | exact Nat.zero_le _ | exact mulC_l | exact mulC_r | (simp only [List.length_cons, List.length_nil, List.length_map, List.length_append, Z.len_app]; omega) | (simp only [List.length_map, List.length_append, List.length_cons, List.length_nil, Z.intsF_len] at *; omega) | with_unfolding_all exact rfl | (refine powC_of ?_; omega) | assumption | exact List.mem_cons_self)) | with_reducible refine IfK.dt (by decide) ?_ | with_reducible refine IfK.df (by decide) ?_) | refine IfK.dec (fun _ => ?_) (fun _ => ?_) | (refine CndK.mk ?_; first | rfl | (simp [*]; done) | (simp; omega) | (simp at *; done) | (simp at *; simp [*]; done) | (simp at *; omega)))))
local macro_rules | `(tactic| sizeOf_list_dec) => `(tactic| repeat ((fail_if_success (first | with_reducible refine isLc ?_ | with_reducible refine isFor ?_)); (first | with_reducible refine Stp.go ?_ | ((with_reducible refine Sd.mk ?_ ?_); focus (first | assumption | omega | exact Nat.zero_le _ | exact mulC_l | exact mulC_r | (simp only [List.length_cons, List.length_nil, List.length_map, List.length_append, Z.len_app]; omega) | (simp only [List.length_map, List.length_append, List.length_cons, List.length_nil, Z.intsF_len] at *; omega) | with_unfolding_all exact rfl | (refine powC_of ?_; omega) | assumption | exact List.mem_cons_self)) | with_reducible refine IfK.dt (by decide) ?_ | with_reducible refine IfK.df (by decide) ?_)))
def takenS : List Str := ["yes", "no", "not", "and", "or", "done", "then", "if", "while", "either", "often", "asks", "deeds", "keeps", "makes", "rests", "idles", "still", "never"]
theorem taken_eq : f_law_taken [] = .ok (.lst ((takenS.map PyData.str).map O.d)) [] := by rfl
theorem taken_len : ∀ z ∈ takenS, z.length ≤ 7 := by decide
instance s_taken {A : O → List O → Prop} {B : Exn → Prop} : Stp (FW (f_law_taken []) A B) (A (.lst ((takenS.map PyData.str).map O.d)) []) := ⟨fun h => by rw [taken_eq]; exact h⟩
instance s_take {c s : Int} {n : Int} {A : O → List O → Prop} {B : Exn → Prop} : Stp (FW (f_law_take [.lst [.d (.int c), .d (.int s)], .d (.int n)]) A B)
    (Sd (0 < n ∧ n < 18446744073709551616) (∀ (r c s : Int), 0 ≤ r → r < n → A (.d (.int r)) [.lst [.d (.int c), .d (.int s)], .d (.int n)])) := ⟨fun k => fw_take ⟨_, _, rfl⟩ k.1.1 k.1.2 fun r bx' hb a b => by
  obtain ⟨c, s, rfl⟩ := hb
  exact k.2 r c s a b⟩
theorem len_intsF (a : Int) (n : Nat) : (intsF a n).length = n := by simp [intsF]
/-- an item of a row, at a place that is there -/
theorem ix_any {α : Type} {e : α → PyData} {l : List α} {o : O} {x : Int} {A : O → Prop} (hl : asLT o = some (l.map e)) (h0 : 0 ≤ x) (h1 : x < l.length) (k : ∀ z ∈ l, A (.d (e z))) : optW (ixF [o, .d (.int x)]) A :=
  optW_ix hl h0 (by simpa using h1) fun y hy => by
    obtain ⟨z, hz, rfl⟩ := List.mem_map.mp hy
    exact k z hz
def lets : Str := "abcdefghijklmnopqrstuvwxyz"
def Low (z : Str) : Prop := ∀ c ∈ L z, c ∈ L lets
/-- a name -/
structure NmOk (z : Str) : Prop where
  pos : 0 < z.length
  le : z.length ≤ 5
  low : Low z
  free : z ∉ takenS
theorem low_app {s t : Str} (h : Low s) (k : Low t) : Low (s ++ t) := fun c m => by
  rw [L_app] at m
  rcases List.mem_append.mp m with m | m
  · exact h c m
  · exact k c m
theorem low_cut {s : Str} (h : Low s) (lo hi : Option Int) : Low (cutS s lo hi) := fun c m => h c (by rw [L_cut] at m; exact cutD_sub _ _ _ _ m)
theorem low_one {s : Str} (h : Low s) {c : Nat} (m : c ∈ s.cps.toList) : Low ⟨#[c]⟩ := fun d e => by
  rw [L_one, List.mem_singleton] at e
  subst e
  exact h _ m
theorem low_lets : Low lets := fun _ h => h
instance (z : Str) : Decidable (Low z) := inferInstanceAs (Decidable (∀ c ∈ L z, c ∈ L lets))
theorem taken_low : ∀ z ∈ takenS, Low z := by decide +kernel
theorem nm_of {z : Str} (h1 : z.length ≤ 5) (h2 : Low z) (h3 : ¬ z = "") (h4 : z ∉ takenS) : NmOk z := ⟨by
  apply Nat.pos_of_ne_zero
  intro e
  apply h3
  apply L_ext
  rw [List.eq_nil_of_length_eq_zero ((L_len z).trans e)]
  rfl, h1, h2, h4⟩
theorem fw_name {c s : Int} {A : O → List O → Prop} {B : Exn → Prop} (k : ∀ (z : Str) (c s : Int), NmOk z → A (.d (.str z)) [.lst [.d (.int c), .d (.int s)]]) : FW (f_law_name [.lst [.d (.int c), .d (.int s)]]) A B := by
  refine fwRun ?_
  unfold g_law_name
  bv_omega
  intro n c s h0 h1; bv_omega
  refine Sd.mk (by rw [len_intsF]; omega) ?_
  bv_omega
  refine wp_lcB PyData.str (fun z => z.length = 1 ∧ Low z) (fun g => ∃ c s : Int, g = [some (.lst [.d (.int c), .d (.int s)]), some (.d (.str "abcdefghijklmnopqrstuvwxyz")), none, none, none, none, none]) ?_ ?_ ⟨_, _, rfl⟩
  · rintro l g hl hp ⟨c, s, rfl⟩
    rw [len_intsF] at hl
    have z0 : (Str.ofString "").length = 0 := by decide
    have hsum : (l.map (·.length)).sum = l.length := by
      clear hl
      induction l with
      | nil => rfl
      | cons a r ih => simp [(hp a (by simp)).1, ih fun z hz => hp z (by simp [hz])]; omega
    have hj : (Txt.join "" l).length = l.length := PySem.W.KT.join_ones l fun a m => (hp a m).1
    have hlow : Low (Txt.join "" l) := fun c m => by
      rw [L_join0 rfl] at m
      obtain ⟨b, hb, m⟩ := List.mem_flatten.mp m
      obtain ⟨z, hz, rfl⟩ := List.mem_map.mp hb
      exact (hp z hz).2 c m
    bv_omega
    refine Sd.mk (by rw [hsum, z0]; omega) ?_
    generalize Txt.join "" l = z at hj hlow
    have hz1 : 1 ≤ z.length := by omega
    have hz5 : z.length ≤ 5 := by omega
    array_get_dec
    refine wp_jn (fun g => ∃ (c s : Int) (z : Str) (o3 o4 o5 : Option O), z.length ≤ 5 ∧ Low z ∧ g = [some (.lst [.d (.int c), .d (.int s)]), some (.d (.str "abcdefghijklmnopqrstuvwxyz")), some (.d (.str z)), o3, o4, o5, none]) ?_ ?_
    · bv_omega
      intro m c s h2 h3; bv_omega
      refine IfK.dec (fun _ => ?_) (fun _ => ?_)
      · bv_omega
        intro r c s h4 h5; bv_omega
        refine ix_any (e := PyData.str) (l := takenS) (asLT_d (allD_map _)) h4 h5 fun w hw => ?_
        have w7 := taken_len w hw
        have wl := taken_low w hw
        bv_omega
        intro at1 c s h6 h7; bv_omega
        have l1 := len_cut w none (some at1)
        have l2 := len_cut w (some at1) none
        have l3 := len_cut w (some (at1 + 1)) none
        bv_omega
        refine optW_ixS (by omega) (by decide) (by omega) fun q hq => ?_
        have l4 : (⟨#[q]⟩ : Str).length = 1 := rfl
        have lq := low_one hlow hq
        bv_omega
        refine optW_ixS (by omega) (by decide) (by omega) fun q2 hq2 => ?_
        have l5 : (⟨#[q2]⟩ : Str).length = 1 := rfl
        have lq2 := low_one hlow hq2
        bv_omega
        intro r c s h8 h9; bv_omega
        refine ix_any (e := PyData.str) (l := [_, _, _]) rfl h8 h9 fun y hy => ?_
        have hx' : y.length ≤ 30 ∧ Low y := by
          simp only [List.mem_cons, List.not_mem_nil, or_false] at hy
          rcases hy with rfl | rfl | rfl
          · exact ⟨by simp only [len_app]; omega, low_app (low_cut wl _ _) (low_cut wl _ _)⟩
          · exact ⟨by simp only [len_app]; omega, low_app (low_app (low_cut wl _ _) lq) (low_cut wl _ _)⟩
          · exact ⟨by simp only [len_app]; omega, low_app (low_app (low_cut wl _ _) lq2) (low_cut wl _ _)⟩
        obtain ⟨y1, y2⟩ := hx'
        bv_omega
        exact ⟨c, s, _, _, _, _, len_cutHi y 5, low_cut y2 _ _, rfl⟩
      · bv_omega
        exact ⟨c, s, z, _, _, _, hz5, hlow, rfl⟩
    · rintro g ⟨c, s, z, o3, o4, o5, hz, hlow, rfl⟩
      refine wp_jn (fun g => ∃ (c s : Int) (z : Str), z.length ≤ 5 ∧ Low z ∧ g = [some (.lst [.d (.int c), .d (.int s)]), some (.d (.str "abcdefghijklmnopqrstuvwxyz")), some (.d (.str z)), o3, o4, o5, none]) ?_ ?_
      · bv_omega
        intro m c s h2 h3; bv_omega
        refine IfK.dec (fun _ => ?_) (fun _ => ?_)
        · bv_omega
          intro r c s h4 h5; bv_omega
          refine ix_any (e := PyData.str) (l := ["do", "ask"]) rfl h4 h5 fun y hy => ?_
          have hx' : y.length ≤ 5 ∧ Low y := by
            have : ∀ y ∈ ([Str.ofString "do", Str.ofString "ask"] : List Str), y.length ≤ 5 ∧ Low y := by decide +kernel
            exact this y hy
          bv_omega
          exact ⟨c, s, y, hx'.1, hx'.2, rfl⟩
        · bv_omega
          exact ⟨c, s, z, hz, hlow, rfl⟩
      · rintro g ⟨c, s, z, hz, hlow, rfl⟩
        have hq : NmOk "q" := ⟨by decide, by decide, by decide +kernel, by decide +kernel⟩
        refine wp_jn (fun g => ∃ (z : Str), NmOk z ∧ g = [some (.lst [.d (.int c), .d (.int s)]), some (.d (.str "abcdefghijklmnopqrstuvwxyz")), some (.d (.str z)), o3, o4, o5, none]) ?_ ?_
        · bv_omega
          refine IfK.dec (fun _ => ?_) (fun he => ?_)
          · bv_omega
            exact ⟨_, hq, rfl⟩
          · bv_omega
            refine IfK.dec (fun _ => ?_) (fun hi => ?_)
            · bv_omega
              exact ⟨_, hq, rfl⟩
            · bv_omega
              exact ⟨_, nm_of hz hlow he hi, rfl⟩
        · rintro g ⟨z, hz, rfl⟩
          bv_omega
          exact k _ _ _ hz
  · rintro d hd g ⟨c, s, rfl⟩
    bv_omega
    intro m c s h2 h3; bv_omega
    refine optW_ixS (by decide) h2 h3 fun x hx => ?_
    exact ⟨⟨#[x]⟩, rfl, ⟨rfl, low_one low_lets hx⟩, c, s, rfl⟩
instance s_name {c s : Int} {A : O → List O → Prop} {B : Exn → Prop} : Stp (FW (f_law_name [.lst [.d (.int c), .d (.int s)]]) A B) (∀ (z : Str) (c s : Int), NmOk z → A (.d (.str z)) [.lst [.d (.int c), .d (.int s)]]) := ⟨fw_name⟩
theorem fw_box {ns : List Int} {i : Int} (hi : 0 ≤ i) {A : O → List O → Prop} {B : Exn → Prop} (k : ∀ c s : Int, A (.lst [.d (.int c), .d (.int s)]) [.gL (ns.map PyData.int), .d (.int i)]) : FW (f_law_box [.gL (ns.map PyData.int), .d (.int i)]) A B := by
  refine fwRun ?_
  unfold g_law_box
  array_get_dec
  refine wp_jn (fun g => ∃ c : Int, g = [some (.gL (ns.map PyData.int)), some (.d (.int i)), some (.d (.int c)), none]) ?_ ?_
  · bv_omega
    refine IfK.dec (fun h1 => ?_) (fun h1 => ?_)
    · bv_omega
      refine ix_any (e := PyData.int) (l := ns) rfl hi (by simpa using h1) fun z _ => ?_
      bv_omega
      exact ⟨_, rfl⟩
    · bv_omega
      refine IfK.dec (fun h2 => ?_) (fun h2 => ?_)
      · bv_omega
        refine ix_any (e := PyData.int) (l := ns) rfl (Int.emod_nonneg _ (by omega)) (by have := Int.emod_lt_of_pos i h2; simpa using this) fun z _ => ?_
        bv_omega
        exact ⟨_, rfl⟩
      · bv_omega
        exact ⟨_, rfl⟩
  · rintro g ⟨c, rfl⟩
    array_get_dec
    refine wp_jn (fun g => ∃ c s : Int, g = [some (.gL (ns.map PyData.int)), some (.d (.int i)), some (.d (.int c)), some (.d (.int s))]) ?_ ?_
    · bv_omega
      refine IfK.dec (fun h1 => ?_) (fun h1 => ?_)
      · bv_omega
        exact ⟨_, _, rfl⟩
      · bv_omega
        exact ⟨_, _, rfl⟩
    · rintro g ⟨c, s, rfl⟩
      bv_omega
      exact k _ _
instance s_box {ns : List Int} {i : Int} {A : O → List O → Prop} {B : Exn → Prop} : Stp (FW (f_law_box [.gL (ns.map PyData.int), .d (.int i)]) A B) (Sd (0 ≤ i) (∀ c s : Int, A (.lst [.d (.int c), .d (.int s)]) [.gL (ns.map PyData.int), .d (.int i)])) := ⟨fun k => fw_box k.1 k.2⟩
end G
namespace G
open PySem PySem.Spec L2 Z
local macro_rules | `(tactic| bv_omega) => `(tactic| repeat (first | with_reducible refine Stp.go ?_ | ((with_reducible refine Sd.mk ?_ ?_); focus (first | assumption | omega | exact Nat.zero_le _ | exact mulC_l | exact mulC_r | (simp only [List.length_cons, List.length_nil, List.length_map, List.length_append, Z.len_app]; omega) | (simp only [List.length_map, List.length_append, List.length_cons, List.length_nil, Z.intsF_len] at *; omega) | with_unfolding_all exact rfl | (refine powC_of ?_; omega) | assumption | exact List.mem_cons_self)) | with_reducible refine IfK.dt (by decide) ?_ | with_reducible refine IfK.df (by decide) ?_))
local macro_rules | `(tactic| array_get_dec) => `(tactic| repeat ((fail_if_success (with_reducible refine isJn ?_)); (first | with_reducible refine Stp.go ?_ | ((with_reducible refine Sd.mk ?_ ?_); focus (first | assumption | omega | exact Nat.zero_le _ | exact mulC_l | exact mulC_r | (simp only [List.length_cons, List.length_nil, List.length_map, List.length_append, Z.len_app]; omega) | (simp only [List.length_map, List.length_append, List.length_cons, List.length_nil, Z.intsF_len] at *; omega) | with_unfolding_all exact rfl | (refine powC_of ?_; omega) | assumption | exact List.mem_cons_self)) | with_reducible refine IfK.dt (by decide) ?_ | with_reducible refine IfK.df (by decide) ?_)))
local macro_rules | `(tactic| array_mem_dec) => `(tactic| (repeat' (first | (first | with_reducible refine Stp.go ?_ | ((with_reducible refine Sd.mk ?_ ?_); focus (first | assumption | omega | exact Nat.zero_le _ | exact mulC_l | exact mulC_r | (simp only [List.length_cons, List.length_nil, List.length_map, List.length_append, Z.len_app]; omega) | (simp only [List.length_map, List.length_append, List.length_cons, List.length_nil, Z.intsF_len] at *; omega) | with_unfolding_all exact rfl | (refine powC_of ?_; omega) | assumption | exact List.mem_cons_self)) | with_reducible refine IfK.dt (by decide) ?_ | with_reducible refine IfK.df (by decide) ?_) | refine IfK.dec (fun _ => ?_) (fun _ => ?_) | (refine CndK.mk ?_; first | rfl | (simp [*]; done) | (simp; omega) | (simp at *; done) | (simp at *; simp [*]; done) | (simp at *; omega)))))
local macro_rules | `(tactic| sizeOf_list_dec) => `(tactic| repeat ((fail_if_success (first | with_reducible refine isLc ?_ | with_reducible refine isFor ?_)); (first | with_reducible refine Stp.go ?_ | ((with_reducible refine Sd.mk ?_ ?_); focus (first | assumption | omega | exact Nat.zero_le _ | exact mulC_l | exact mulC_r | (simp only [List.length_cons, List.length_nil, List.length_map, List.length_append, Z.len_app]; omega) | (simp only [List.length_map, List.length_append, List.length_cons, List.length_nil, Z.intsF_len] at *; omega) | with_unfolding_all exact rfl | (refine powC_of ?_; omega) | assumption | exact List.mem_cons_self)) | with_reducible refine IfK.dt (by decide) ?_ | with_reducible refine IfK.df (by decide) ?_)))
end G
namespace G
open PySem PySem.Spec L2 Z
end G
namespace Z
open PySem PySem.Spec L2
mutual
theorem eqv_refl : ∀ x : PyData, PyData.canLay0 x = true → PyData.eqv x x = true
  | .none, _ => rfl
  | .bool b, _ => by simp [PyData.eqv]
  | .int i, _ => by simp [PyData.eqv]
  | .str s, _ => by simp [PyData.eqv]
  | .list xs, h => by
    simp only [PyData.eqv]
    exact eqvAll_refl xs (by simpa only [PyData.canLay0] using h)
  | .tuple xs, h => by
    simp only [PyData.eqv]
    exact eqvAll_refl xs (by simpa only [PyData.canLay0] using h)
  | .dict _, h => by simp [PyData.canLay0] at h
theorem eqvAll_refl : ∀ xs : List PyData, PyData.canLayAll0 xs = true → PyData.eqvAll xs xs = true
  | [], _ => rfl
  | x :: r, h => by
    simp only [PyData.canLayAll0, Bool.and_eq_true] at h
    simp only [PyData.eqvAll, eqv_refl x h.1, eqvAll_refl r h.2, Bool.and_self]
end
/-- data that == looks through: no dict, texts of signs, not too deep -/
def Sh (d : Nat) (x : PyData) : Prop := PyData.canLay0 x = true ∧ PyData.depth x ≤ d
def ShL (d : Nat) (xs : List PyData) : Prop := PyData.canLayAll0 xs = true ∧ PyData.depthAll xs ≤ d
theorem Sh.shaped {d : Nat} {x : PyData} (h : Sh d x) (hd : d ≤ 64) : SeqAt.shaped x = true := by
  unfold SeqAt.shaped
  rw [h.1, Bool.true_and]
  exact decide_eq_true (Nat.le_trans h.2 hd)
theorem ShL.all {d : Nat} : ∀ {xs : List PyData}, (∀ x ∈ xs, Sh d x) → ShL d xs
  | [], _ => ⟨rfl, by simp [PyData.depthAll]⟩
  | x :: r, h => by
    have h1 := h x (by simp)
    have h2 := ShL.all (xs := r) fun y m => h y (by simp [m])
    refine ⟨?_, ?_⟩
    · simp only [PyData.canLayAll0, h1.1, h2.1, Bool.and_self]
    · have := h1.2; have := h2.2
      simp only [PyData.depthAll]
      omega
theorem Sh.tup {d : Nat} {xs : List PyData} (h : ∀ x ∈ xs, Sh d x) : Sh (d + 1) (.tuple xs) := by
  have := ShL.all h
  refine ⟨by simpa only [PyData.canLay0] using this.1, ?_⟩
  have := this.2
  simp only [PyData.depth]
  omega
theorem Sh.lst {d : Nat} {xs : List PyData} (h : ∀ x ∈ xs, Sh d x) : Sh (d + 1) (.list xs) := by
  have := ShL.all h
  refine ⟨by simpa only [PyData.canLay0] using this.1, ?_⟩
  have := this.2
  simp only [PyData.depth]
  omega
theorem Sh.int {i : Int} : Sh 1 (.int i) := ⟨rfl, by simp [PyData.depth]⟩
theorem Sh.bool {i : Bool} : Sh 1 (.bool i) := ⟨rfl, by simp [PyData.depth]⟩
def SOk (s : Str) : Prop := ∀ c ∈ L s, c < 0x110000
instance (s : Str) : Decidable (SOk s) := inferInstanceAs (Decidable (∀ c ∈ L s, c < 0x110000))
theorem Sh.str {s : Str} (h : SOk s) : Sh 1 (.str s) := ⟨by
  show (s.cps.all (· < 0x110000)) = true
  rw [← Array.all_toList]
  exact List.all_eq_true.mpr fun c m => decide_eq_true (h c m), by simp [PyData.depth]⟩
theorem eqB_D {a b : O} {x y : PyData} (ha : a.fz = some x) (hb : b.fz = some y) (hx : SeqAt.shaped x = true) (hy : SeqAt.shaped y = true) : eqB a b = some (PyData.eqv x y) := by
  unfold eqB
  rw [ha, hb]
  cases x <;> cases y <;> first | rfl | simp only [hx, hy, and_self, if_true]
section
variable {AO : O → Prop} {a b : O} {x y : PyData}
instance (priority := 60) o_neD [ha : FzC a x] [hb : FzC b y] : Stp (optW (neF [a, b]) AO) (Sd (SeqAt.shaped x = true ∧ SeqAt.shaped y = true) (AO (.d (.bool (!PyData.eqv x y))))) := ⟨fun h => by
  have e : neF [a, b] = some (.d (.bool (!PyData.eqv x y))) := by simp only [neF, eqB_D ha.eq hb.eq h.1.1 h.1.2]
  rw [e]; exact h.2⟩
end
section
variable {AF : Fl → Gs → Prop} {AL : List O → Gs → Prop} {B : Exn → Gs → Prop} {m : M O} {a : M Fl} {c : M Bool} {set : O → M Unit} {vs : List Nat}
theorem isLc {ds : List PyData} {acc : List O} {g : Gs} (h : Wp (lcM vs set c m ds acc g) AL B) : Wp (lcM vs set c m ds acc g) AL B := h
theorem isFor {ds : List PyData} {g : Gs} (h : Wp (forM set a ds g) AF B) : Wp (forM set a ds g) AF B := h
theorem intsF_succ (lo : Int) (n : Nat) : intsF lo (n + 1) = .int lo :: intsF (lo + 1) n := by
  unfold intsF
  rw [List.range_succ_eq_map, List.map_cons, List.map_map]
  simp only [List.cons.injEq]
  refine ⟨by simp, List.map_congr_left fun i _ => ?_⟩
  simp only [Function.comp]
  congr 1
  omega
theorem intsF_len (a : Int) (n : Nat) : (intsF a n).length = n := by simp [intsF]
theorem wp_forN (I : Int → Gs → Prop) : ∀ {n : Nat} {lo : Int} {g : Gs} (he : ∀ g, I (lo + n) g → AF .next g)
    (hs : ∀ i g, lo ≤ i → i < lo + n → I i g → Wp (set (.d (.int i)) g) (fun _ g1 => Wp (a g1) (ForI (ι := Nat) (fun _ g => I (i + 1) g) [] AF) B) B) (h : I lo g), Wp (forM set a (intsF lo n) g) AF B
  | 0, lo, g, he, hs, h => he g (by simpa using h)
  | n + 1, lo, g, he, hs, h => by
    rw [intsF_succ]
    refine Stp.go ((hs lo g (by omega) (by omega) h).mono (fun _ g1 q => q.mono (fun fl g2 z => ?_) fun _ _ z => z) fun _ _ z => z)
    have ih := @wp_forN I n (lo + 1)
    have e : lo + 1 + (n : Int) = lo + ((n + 1 : Nat) : Int) := by omega
    cases fl with
    | next => exact ih (fun g k => he g (by rw [← e]; exact k)) (fun i g h1 h2 => hs i g (by omega) (by omega)) z
    | cnt => exact ih (fun g k => he g (by rw [← e]; exact k)) (fun i g h1 h2 => hs i g (by omega) (by omega)) z
    | brk => exact z
    | ret o => exact z
theorem intsF_map (lo : Int) (n : Nat) : intsF lo n = ((List.range n).map fun (i : Nat) => lo + (i : Int)).map PyData.int := by
  unfold intsF
  rw [List.map_map]
  rfl
end
end Z
local macro_rules | `(tactic| bv_omega) => `(tactic| repeat (first | with_reducible refine Z.Stp.go ?_ | ((with_reducible refine Z.Sd.mk ?_ ?_); focus (first | assumption | omega | exact Nat.zero_le _ | exact Z.mulC_l | exact Z.mulC_r | (simp only [List.length_cons, List.length_nil, List.length_map, List.length_append, Z.len_app]; omega) | (simp only [List.length_map, List.length_append, List.length_cons, List.length_nil, Z.intsF_len] at *; omega) | with_unfolding_all exact rfl | (refine Z.powC_of ?_; omega) | assumption | exact List.mem_cons_self)) | with_reducible refine Z.IfK.dt (by decide) ?_ | with_reducible refine Z.IfK.df (by decide) ?_))
local macro_rules | `(tactic| array_get_dec) => `(tactic| repeat ((fail_if_success (with_reducible refine Z.isJn ?_)); (first | with_reducible refine Z.Stp.go ?_ | ((with_reducible refine Z.Sd.mk ?_ ?_); focus (first | assumption | omega | exact Nat.zero_le _ | exact Z.mulC_l | exact Z.mulC_r | (simp only [List.length_cons, List.length_nil, List.length_map, List.length_append, Z.len_app]; omega) | (simp only [List.length_map, List.length_append, List.length_cons, List.length_nil, Z.intsF_len] at *; omega) | with_unfolding_all exact rfl | (refine Z.powC_of ?_; omega) | assumption | exact List.mem_cons_self)) | with_reducible refine Z.IfK.dt (by decide) ?_ | with_reducible refine Z.IfK.df (by decide) ?_)))
local macro_rules | `(tactic| array_mem_dec) => `(tactic| (repeat' (first | (first | with_reducible refine Z.Stp.go ?_ | ((with_reducible refine Z.Sd.mk ?_ ?_); focus (first | assumption | omega | exact Nat.zero_le _ | exact Z.mulC_l | exact Z.mulC_r | (simp only [List.length_cons, List.length_nil, List.length_map, List.length_append, Z.len_app]; omega) | (simp only [List.length_map, List.length_append, List.length_cons, List.length_nil, Z.intsF_len] at *; omega) | with_unfolding_all exact rfl | (refine Z.powC_of ?_; omega) | assumption | exact List.mem_cons_self)) | with_reducible refine Z.IfK.dt (by decide) ?_ | with_reducible refine Z.IfK.df (by decide) ?_) | refine Z.IfK.dec (fun _ => ?_) (fun _ => ?_) | (refine Z.CndK.mk ?_; first | rfl | (simp [*]; done) | (simp; omega) | (simp at *; done) | (simp at *; simp [*]; done) | (simp at *; omega)))))
local macro_rules | `(tactic| sizeOf_list_dec) => `(tactic| repeat ((fail_if_success (first | with_reducible refine Z.isLc ?_ | with_reducible refine Z.isFor ?_)); (first | with_reducible refine Z.Stp.go ?_ | ((with_reducible refine Z.Sd.mk ?_ ?_); focus (first | assumption | omega | exact Nat.zero_le _ | exact Z.mulC_l | exact Z.mulC_r | (simp only [List.length_cons, List.length_nil, List.length_map, List.length_append, Z.len_app]; omega) | (simp only [List.length_map, List.length_append, List.length_cons, List.length_nil, Z.intsF_len] at *; omega) | with_unfolding_all exact rfl | (refine Z.powC_of ?_; omega) | assumption | exact List.mem_cons_self)) | with_reducible refine Z.IfK.dt (by decide) ?_ | with_reducible refine Z.IfK.df (by decide) ?_)))
namespace G
open PySem PySem.Spec L2 Z
/-- a test over these questions -/
def Tst.over (qs : List Str) : Tst → Prop
  | .ask q => q ∈ qs
  | .not t => t.over qs
  | .and a b => a.over qs ∧ b.over qs
  | .or a b => a.over qs ∧ b.over qs
  | _ => True
def Err.over (qs ps : List Str) : Err → Prop
  | .done => True
  | .doo p => p ∈ ps
  | .often e => e.over qs ps
  | .whl t e => t.over qs ∧ e.over qs ps
  | .thn a b => a.over qs ps ∧ b.over qs ps
  | .iff t a b => t.over qs ∧ a.over qs ps ∧ b.over qs ps
  | .eth a b => a.over qs ps ∧ b.over qs ps
theorem low_sok {z : Str} (h : Low z) : SOk z := fun c m => by
  have h2 : ∀ c ∈ L lets, c < 0x110000 := by decide +kernel
  exact h2 c (h c m)
end G
namespace Z
open PySem PySem.Spec PySem.W PyProof.Rows L2 PyProof.V
end Z
namespace Z
open PySem PySem.Spec L2
def kk (is : List Int) : List Key := is.map Sum.inl
end Z
namespace Z
open PySem PySem.Spec L2
end Z
namespace Z
open PySem PySem.Spec L2
end Z
namespace Z
open PySem PySem.Spec L2
end Z
namespace G
open PySem PySem.Spec L2 Z
end G
namespace G
open PySem PySem.Spec L2 Z
inductive Fact where
  | keeps (p q : Str)
  | makes (p q : Str) (v : Bool)
  | rests (p r : Str)
  | idles (q : Str) (v : Bool) (p : Str)
  | still (p : Str)
  | never (t : Tst)
def Fact.d : Fact → PyData
  | .keeps p q => .tuple [.str "keeps", .str p, .str q]
  | .makes p q v => .tuple [.str "makes", .str p, .str q, .bool v]
  | .rests p r => .tuple [.str "rests", .str p, .str r]
  | .idles q v p => .tuple [.str "idles", .str q, .bool v, .str p]
  | .still p => .tuple [.str "still", .str p]
  | .never t => .tuple [.str "never", t.d]
structure Book where
  asks : List Str
  deeds : List Str
  facts : List Fact
def Book.d (b : Book) : PyData := .tuple [.tuple (b.asks.map PyData.str), .tuple (b.deeds.map PyData.str), .tuple (b.facts.map Fact.d)]
def Fact.over (asks deeds : List Str) : Fact → Prop
  | .keeps p q => p ∈ deeds ∧ q ∈ asks
  | .makes p q _ => p ∈ deeds ∧ q ∈ asks
  | .rests p r => p ∈ deeds ∧ r ∈ deeds
  | .idles q _ p => q ∈ asks ∧ p ∈ deeds
  | .still p => p ∈ deeds
  | .never t => t.over asks ∧ t.size ≤ 7 ∧ t.deep ≤ 7
/-- a book as the laws draw them -/
structure Book.Ok (b : Book) : Prop where
  asksN : b.asks.Nodup
  deedsN : b.deeds.Nodup
  asksM : ∀ q ∈ b.asks, NmOk q
  deedsM : ∀ q ∈ b.deeds, NmOk q
  asksL : b.asks.length ≤ 3
  deedsP : 1 ≤ b.deeds.length
  deedsL : b.deeds.length ≤ 3
  factsL : b.facts.length ≤ 6
  factsO : ∀ f ∈ b.facts, f.over b.asks b.deeds
/-- whether question k is answered yes -/
def bitI (n : Int) (k : Nat) : Bool := decide (n / 2 ^ k % 2 = 1)
end G
namespace G
open PySem PySem.Spec L2 Z
end G
namespace G
open PySem PySem.Spec L2 Z
/-- a text that ends in a small letter -/
def Ends (z : Str) (P : List Nat) (j : Nat) : Prop := L z = P ++ [97 + j] ∧ j < 26
end G
namespace G
open PySem PySem.Spec L2 Z
theorem ix_get {α : Type} {e : α → PyData} {l : List α} {o : O} {i : Nat} {A : O → Prop} (hl : asLT o = some (l.map e)) (h : i < l.length) (hs : ∀ z, o ≠ .d (.str z)) (k : A (.d (e l[i]))) : optW (ixF [o, .d (.int (i : Nat))]) A := by
  have e1 : ixF [o, .d (.int (i : Nat))] = some (.d (e l[i])) := by
    have h2 : atI (l.map e) (i : Int) = some (e l[i]) := atI_lit (by simp [h])
    unfold ixF
    split
    · rename_i e
      simp only [List.cons.injEq, O.d.injEq, PyData.int.injEq, and_true] at e
      exact absurd e.1 (hs _)
    · rename_i e
      simp only [List.cons.injEq, O.d.injEq, PyData.int.injEq, and_true] at e
      obtain ⟨rfl, rfl⟩ := e
      simp only [hl, h2]
    · rename_i h0 _
      first | exact absurd rfl (h0 _ _) | simp_all
  rw [e1]
  exact k
def Fact.base (b : Book) (n : Int) : Fact → Option Nat
  | .still p => some (b.deeds.idxOf p)
  | .idles q v p => if bitI n (b.asks.idxOf q) = v then some (b.deeds.idxOf p) else none
  | _ => none
end G
namespace G
open PySem PySem.Spec L2 Z
end G
namespace G
open PySem PySem.Spec L2 Z
end G
namespace G
open PySem PySem.Spec L2 Z
end G
namespace G
open PySem PySem.Spec L2 Z
end G
namespace Z
open PySem PySem.Spec L2
end Z
namespace G
open PySem PySem.Spec L2 Z
end G
namespace G
open PySem PySem.Spec L2 Z
def Err.put (p : Str) : Err → Err → Err
  | .done, _ => .done
  | .doo q, i => if q = p then i else .doo q
  | .often e, i => .often (e.put p i)
  | .whl t e, i => .whl t (e.put p i)
  | .thn a b, i => .thn (a.put p i) (b.put p i)
  | .iff t a b, i => .iff t (a.put p i) (b.put p i)
  | .eth a b, i => .eth (a.put p i) (b.put p i)
end G
namespace G
open PySem PySem.Spec L2 Z
end G
namespace Z
open PySem PySem.Spec L2
inductive Sp1 where
  | fld (f : Str)
  | idx (j : Nat)
  | kT (k : List Key)
  | kK (k : Key)
abbrev Pth := List Sp1
def setV {α β : Type} : List (α × β) → Nat → β → List (α × β)
  | [], _, _ => []
  | p :: r, 0, o => (p.1, o) :: r
  | p :: r, j + 1, o => p :: setV r j o
theorem setV_keys {α β : Type} : ∀ {l : List (α × β)} {j : Nat} {o : β}, (setV l j o).map (·.1) = l.map (·.1)
  | [], _, _ => rfl
  | _ :: _, 0, _ => rfl
  | p :: r, j + 1, o => by simp only [setV, List.map_cons, setV_keys (l := r)]
theorem setV_vals {α β : Type} : ∀ {l : List (α × β)} {j : Nat} {o : β}, (setV l j o).map (·.2) = (l.map (·.2)).set j o
  | [], _, _ => rfl
  | _ :: _, 0, _ => rfl
  | p :: r, j + 1, o => by simp only [setV, List.map_cons, List.set_cons_succ, setV_vals (l := r)]
def chs : O → List O
  | .lst os => os
  | .tup os => os
  | .dK kvs => kvs.map (·.2)
  | .dT kvs => kvs.map (·.2)
  | .ins _ fs => fs.map (·.2)
  | _ => []
def chV : HO → List V
  | .lst os => os
  | .tup os => os
  | .dK kvs => kvs.map (·.2)
  | .dT kvs => kvs.map (·.2)
  | .ins _ _ fs => fs.map (·.2)
  | _ => []
def setC : O → Nat → O → O
  | .lst os, j, o => .lst (os.set j o)
  | .tup os, j, o => .tup (os.set j o)
  | .dK kvs, j, o => .dK (setV kvs j o)
  | .dT kvs, j, o => .dT (setV kvs j o)
  | .ins c fs, j, o => .ins c (setV fs j o)
  | x, _, _ => x
def fix1 {α : Type} [DecidableEq α] (ks : List α) (k : α) : Option Nat := ks.findIdx? fun x => decide (x = k)
def cix : O → Sp1 → Option Nat
  | .lst _, .idx j => some j
  | .tup _, .idx j => some j
  | .dK kvs, .kK k => fix1 (kvs.map (·.1)) k
  | .dT kvs, .kT k => fix1 (kvs.map (·.1)) k
  | .ins _ fs, .fld f => fix1 (fs.map (·.1)) f
  | _, _ => none
def cixV : HO → Sp1 → Option Nat
  | .lst _, .idx j => some j
  | .tup _, .idx j => some j
  | .dK kvs, .kK k => fix1 (kvs.map (·.1)) k
  | .dT kvs, .kT k => fix1 (kvs.map (·.1)) k
  | .ins _ _ fs, .fld f => fix1 (fs.map (·.1)) f
  | _, _ => none
def sub1 (o : O) (s : Sp1) : Option O := match cix o s with
  | some j => (chs o)[j]?
  | none => none
def put1 (o : O) (s : Sp1) (x : O) : O := match cix o s with
  | some j => setC o j x
  | none => o
def getP : O → Pth → Option O
  | o, [] => some o
  | o, s :: π => match sub1 o s with
    | some x => getP x π
    | none => none
def setP : O → Pth → O → O
  | _, [], x => x
  | o, s :: π, x => match sub1 o s with
    | some y => put1 o s (setP y π x)
    | none => o
/-- where a place leads, by the heap -/
inductive Wlk (H : Hp) : V → Pth → V → Prop
  | nil {v : V} : Wlk H v [] v
  | cons {a : Addr} {ho : HO} {s : Sp1} {j : Nat} {u w : V} {π : Pth} : H a = some ho → cixV ho s = some j → (chV ho)[j]? = some u → Wlk H u π w → Wlk H (.ref a) (s :: π) w
section
variable {K : PySem.W.Frag} {mg : Str → Option Value} {H H' : Hp} {Ex : List (Addr × HO)} {rs ws : Roots}
theorem Opn.ch {o : O} {ho : HO} {vs : List V} {os : List O} (p : Opn mg o ho vs os) (hN : ∀ ks xs, o ≠ .dN ks xs) : chs o = os ∧ chV ho = vs ∧ (∀ s, cixV ho s = cix o s) ∧ ∀ j x, Opn mg (setC o j x) ho vs (os.set j x) := by
  cases p with
  | lst => exact ⟨rfl, rfl, fun s => by cases s <;> rfl, fun _ _ => .lst⟩
  | tup => exact ⟨rfl, rfl, fun s => by cases s <;> rfl, fun _ _ => .tup⟩
  | dK h => exact ⟨rfl, rfl, fun s => by cases s <;> first | rfl | simp only [cixV, cix, h.1], fun j x => by
      show Opn mg (.dK (setV _ j x)) _ _ _
      rw [← setV_vals]
      exact .dK (by rw [setV_keys]; exact h)⟩
  | dT h => exact ⟨rfl, rfl, fun s => by cases s <;> first | rfl | simp only [cixV, cix, h.1], fun j x => by
      show Opn mg (.dT (setV _ j x)) _ _ _
      rw [← setV_vals]
      exact .dT (by rw [setV_keys]; exact h)⟩
  | ins c h => exact ⟨rfl, rfl, fun s => by cases s <;> first | rfl | simp only [cixV, cix, h], fun j x => by
      show Opn mg (.ins _ (setV _ j x)) _ _ _
      rw [← setV_vals]
      exact .ins c (h.trans (setV_keys (j := j) (o := x)).symm)⟩
  | dN _ _ => exact absurd rfl (hN _ _)
theorem permAt {α : Type} {l : List α} {j : Nat} (h : j < l.length) : l.Perm (l[j] :: l.eraseIdx j) := (permErase h).symm
theorem permSetP {α : Type} : ∀ {l : List α} {j : Nat} (h : j < l.length) (x : α), (l.set j x).Perm (x :: l.eraseIdx j)
  | _ :: _, 0, _, _ => .refl _
  | a :: l, j + 1, h, x => by
    simp only [List.set_cons_succ, List.eraseIdx_cons_succ]
    exact ((permSetP (l := l) (j := j) (by simpa using h) x).cons a).trans (.swap _ _ _)
theorem zipSetP : ∀ {vs : List V} {os : List O} {j : Nat} {v : V} {x : O}, vs[j]? = some v → vs.zip (os.set j x) = (vs.zip os).set j (v, x)
  | [], _, _, _, _, _ => by simp
  | _ :: _, [], j, _, _, _ => by simp
  | w :: vs, q :: os, 0, v, x, h => by
    simp only [List.getElem?_cons_zero, Option.some.injEq] at h
    subst h
    rfl
  | w :: vs, q :: os, j + 1, v, x, h => by
    simp only [List.getElem?_cons_succ] at h
    simp only [List.set_cons_succ, List.zip_cons_cons, zipSetP h]
theorem Rel.opn1 {v : V} {o x : O} {s : Sp1} (r : Rel K mg H Ex ((v, o) :: rs) ws) (h : sub1 o s = some x) : ∃ (a : Addr) (ho : HO) (j : Nat) (u : V) (r1 : Roots), v = .ref a ∧ H a = some ho ∧ cixV ho s = some j ∧ (chV ho)[j]? = some u ∧
    Rel K mg H ((a, ho) :: Ex) ((u, x) :: (r1 ++ rs)) ws ∧ ∀ (H' : Hp) (x' : O) (rs2 ws2 : Roots), Rel K mg H' ((a, ho) :: Ex) ((u, x') :: (r1 ++ rs2)) ws2 → Rel K mg H' Ex ((v, put1 o s x') :: rs2) ws2 ∧ H' a = some ho := by
  have hg : o.isG = false := by
    unfold sub1 at h
    split at h
    · rename_i j hj
      cases o <;> first | rfl | (cases s <;> simp [cix] at hj)
    · cases h
  obtain ⟨a, ho, vs, os, e1, e2, p, hl, r2⟩ := r.opn hg
  have hN : ∀ ks xs, o ≠ .dN ks xs := fun ks xs e => by
    subst e
    unfold sub1 at h
    split at h
    · rename_i j hj
      cases s <;> simp [cix] at hj
    · cases h
  obtain ⟨c1, c2, c3, c4⟩ := p.ch hN
  unfold sub1 at h
  split at h
  · rename_i j hj
    rw [c1] at h
    obtain ⟨hlt, hx⟩ := List.getElem?_eq_some_iff.mp h
    have hlv : j < vs.length := by omega
    have hz : j < (vs.zip os).length := by rw [List.length_zip]; omega
    have e3 : (vs.zip os)[j] = (vs[j], x) := by simp [hx]
    refine ⟨a, ho, j, vs[j], (vs.zip os).eraseIdx j, e1, e2, (c3 s).trans hj, by rw [c2]; simp, ?_, fun H' x' rs2 ws2 r3 => ?_⟩
    · have p1 := permAt hz
      rw [e3] at p1
      exact r2.perm (p1.append_right _)
    · have ez : vs.zip (os.set j x') = (vs.zip os).set j (vs[j], x') := zipSetP (by simp)
      have p2 := permSetP hz (vs[j], x')
      rw [← ez] at p2
      have r4 := r3.perm ((p2.append_right rs2).symm)
      have hH : H' a = some ho := by
        obtain ⟨Hf, as, s, he, _⟩ := r4.ex
        exact he _ List.mem_cons_self
      subst e1
      refine ⟨?_, hH⟩
      unfold put1
      rw [hj]
      exact r4.shut (c4 j x') (by simp [hl])
  · cases h
theorem Rel.opnP : ∀ {π : Pth} {Ex : List (Addr × HO)} {rs : Roots} {v : V} {o x : O}, Rel K mg H Ex ((v, o) :: rs) ws → getP o π = some x → ∃ (w : V) (Ex' : List (Addr × HO)) (r1 : Roots), Wlk H v π w ∧
    Rel K mg H (Ex' ++ Ex) ((w, x) :: (r1 ++ rs)) ws ∧ ∀ (H' : Hp) (x' : O) (rs2 ws2 : Roots), Rel K mg H' (Ex' ++ Ex) ((w, x') :: (r1 ++ rs2)) ws2 → Rel K mg H' Ex ((v, setP o π x') :: rs2) ws2 ∧ Wlk H' v π w
  | [], Ex, rs, v, o, x, r, h => by
    simp only [getP, Option.some.injEq] at h
    subst h
    exact ⟨v, [], [], .nil, r, fun H' x' rs2 ws2 r2 => ⟨r2, .nil⟩⟩
  | s :: π, Ex, rs, v, o, x, r, h => by
    simp only [getP] at h
    split at h
    · rename_i y hy
      obtain ⟨a, ho, j, u, r1, e1, e2, e3, e4, r2, cl⟩ := r.opn1 hy
      obtain ⟨w, Ex', r1', w1, r3, cl2⟩ := Rel.opnP r2 h
      subst e1
      refine ⟨w, Ex' ++ [(a, ho)], r1' ++ r1, .cons e2 e3 e4 w1, ?_, fun H' x' rs2 ws2 r4 => ?_⟩
      · rw [List.append_assoc, List.append_assoc]
        exact r3
      · rw [List.append_assoc, List.append_assoc] at r4
        obtain ⟨r5, w5⟩ := cl2 H' x' _ _ r4
        obtain ⟨r6, h6⟩ := cl H' _ _ _ r5
        simp only [setP, hy]
        exact ⟨r6, .cons h6 e3 e4 w5⟩
    · cases h
end
def getPl (g : Gs) (i : Nat) (π : Pth) : Option O := match g[i]? with
  | some (some o) => getP o π
  | _ => none
def setPl (g : Gs) (i : Nat) (π : Pth) (x : O) : Gs := match g[i]? with
  | some (some o) => g.set i (some (setP o π x))
  | _ => g
section
variable {X : Cx} {W : WX} {pu pv pw : Bool} {H H' : Hp} {Ex : List (Addr × HO)} {σ σ' : L2.St} {g : Gs} {T T' ws ws' rs : Roots}
theorem At.opnP {i : Nat} {π : Pth} {x : O} {v : V} (a : At X H Ex σ g T ws) (h : getPl g i π = some x) (hv : σ[i]? = some (some v)) : ∃ (w : V) (Ex' : List (Addr × HO)) (r1 : Roots), Wlk H v π w ∧
    Rel X.K X.mg H (Ex' ++ Ex) ((w, x) :: (r1 ++ (roots σ (g.set i none) ++ T))) ws ∧ ∀ (H' : Hp) (x' : O) (T2 ws2 : Roots), Rel X.K X.mg H' (Ex' ++ Ex) ((w, x') :: (r1 ++ (roots σ (g.set i none) ++ T2))) ws2 → At X H' Ex σ (setPl g i π x') T2 ws2 ∧ Wlk H' v π w := by
  unfold getPl at h
  split at h
  · rename_i o ho
    obtain ⟨w, Ex', r1, w1, r2, cl⟩ := (a.get ho hv).opnP h
    refine ⟨w, Ex', r1, w1, r2, fun H' x' T2 ws2 r3 => ?_⟩
    obtain ⟨r4, w4⟩ := cl H' x' _ _ r3
    refine ⟨?_, w4⟩
    unfold setPl
    rw [ho]
    exact .put a.fit hv r4
  · cases h
end
end Z
namespace Z
open PySem PySem.Spec L2
section
variable {X : Cx} {W : WX} {pu pv pw : Bool} {H H' : Hp} {Ex : List (Addr × HO)} {σ σ' : L2.St} {g : Gs} {T T' ws ws' rs : Roots} {e a b o lo hi : Expr} {es : List Expr} {m : M O} {mp : M Pth} {ms : M (List O)} {pos p p2 apos : Pos} {k j np : Nat} {x : Str}
theorem ixN_lt {n : Nat} {k : Int} {j : Nat} (h : ixN n k = some j) : j < n := by
  unfold ixN at h
  split at h
  · split at h
    · cases h; omega
    · cases h
  · split at h
    · cases h; omega
    · cases h
end
end Z
namespace Z
open PySem PySem.Spec L2
def unfr : O → O
  | .fr o => o
  | o => o
def mkFr : O → O
  | .d x => .d x
  | .fr o => .fr o
  | o => .fr o
section
variable {K : PySem.W.Frag} {mg : Str → Option Value} {H H' : Hp} {Ex : List (Addr × HO)} {rs ws : Roots} {Hf : Fz}
theorem owUp {v : V} {o : O} {as : List Addr} (s : Hf.on K H) (h : Ow K mg Hf Hf.h v o as) : Ow K mg Hf H v o as := owMono (Fz.le.refl _) h fun a m => by
  obtain ⟨u, q⟩ := owThere h a m
  exact (s.same _ _ q).trans q.symm
theorem owUn {v : V} {o : O} {as : List Addr} (s : Hf.on K H) (h : Ow K mg Hf H v o as) : ∃ bs, Ow K mg Hf H v (unfr o) bs := by
  cases h with
  | fr n h => exact ⟨_, owUp s h⟩
  | d h => exact ⟨_, .d h⟩
  | gL h t => exact ⟨_, .gL h t⟩
  | gT h t => exact ⟨_, .gT h t⟩
  | gD h k t => exact ⟨_, .gD h k t⟩
  | gK h k t => exact ⟨_, .gK h k t⟩
  | gN h k t u => exact ⟨_, .gN h k t u⟩
  | pin h => exact ⟨_, .pin h⟩
  | mem h => exact ⟨_, .mem h⟩
  | hole => exact ⟨_, .hole⟩
  | jk => exact ⟨_, .jk⟩
  | exc h c t => exact ⟨_, .exc h c t⟩
  | lst h t => exact ⟨_, .lst h t⟩
  | tup h t => exact ⟨_, .tup h t⟩
  | dK h k t => exact ⟨_, .dK h k t⟩
  | dT h k t => exact ⟨_, .dT h k t⟩
  | ins h c k t => exact ⟨_, .ins h c k t⟩
  | dN h k l t => exact ⟨_, .dN h k l t⟩
theorem owFr {v : V} {o : O} {as : List Addr} (h : Ow K mg Hf Hf.h v o as) : Ow K mg Hf H v (mkFr o) [] := by
  cases h with
  | d h => exact .d h
  | fr n h => exact .fr n h
  | gL h t => exact .fr rfl (.gL h t)
  | gT h t => exact .fr rfl (.gT h t)
  | gD h k t => exact .fr rfl (.gD h k t)
  | gK h k t => exact .fr rfl (.gK h k t)
  | gN h k t u => exact .fr rfl (.gN h k t u)
  | pin h => exact .fr rfl (.pin h)
  | mem h => exact .fr rfl (.mem h)
  | hole => exact .fr rfl .hole
  | jk => exact .fr rfl .jk
  | exc h c t => exact .fr rfl (.exc h c t)
  | lst h t => exact .fr rfl (.lst h t)
  | tup h t => exact .fr rfl (.tup h t)
  | dK h k t => exact .fr rfl (.dK h k t)
  | dT h k t => exact .fr rfl (.dT h k t)
  | ins h c k t => exact .fr rfl (.ins h c k t)
  | dN h k l t => exact .fr rfl (.dN h k l t)
theorem Rel.unfr {v : V} {o : O} (r : Rel K mg H Ex rs ((v, o) :: ws)) : Rel K mg H Ex rs ((v, unfr o) :: ws) := by
  obtain ⟨Hf, as, s, he, ho, nd, hn, hw⟩ := r.ex
  refine ⟨Hf, as, s, he, ho, nd, hn, fun p m => ?_⟩
  rcases List.mem_cons.mp m with e | m
  · subst e
    obtain ⟨bs, h⟩ := hw _ List.mem_cons_self
    exact owUn s h
  · exact hw p (List.mem_cons_of_mem _ m)
theorem owG {v : V} {o : O} {as : List Addr} (h : Ow K mg Hf H v o as) (g : o.isG = true) : as = [] := by
  cases h <;> first | rfl | cases g
/-- what is ground may be had -/
theorem Rel.ofViewG {v : V} {o : O} (r : Rel K mg H Ex rs ((v, o) :: ws)) (g : o.isG = true) : Rel K mg H Ex ((v, o) :: rs) ((v, o) :: ws) := by
  obtain ⟨Hf, as, s, he, ho, nd, hn, hw⟩ := r.ex
  obtain ⟨bs, h⟩ := hw _ List.mem_cons_self
  cases owG h g
  exact ⟨Hf, _, s, he, .cons (as := []) h ho, nd, hn, hw⟩
/-- what is owned stands still from now on -/
theorem Rel.still {v : V} {o : O} (r : Rel K mg H Ex ((v, o) :: rs) ws) : Rel K mg H Ex ((v, mkFr o) :: rs) ws := by
  obtain ⟨Hf, as, s, he, hob, nd, hnn, hw⟩ := r.ex
  cases hob with
  | cons h t =>
    rename_i a1 a2
    have sub : (Ex.map (·.1) ++ a2).Sublist (Ex.map (·.1) ++ (a1 ++ a2)) := (List.sublist_append_right a1 a2).append_left _
    have dj : ∀ a ∈ Ex.map (·.1) ++ a2, a ∉ a1 := fun a m m1 => by
      have hp : (Ex.map (·.1) ++ (a1 ++ a2)).Perm (a1 ++ (Ex.map (·.1) ++ a2)) := by
        rw [← List.append_assoc, ← List.append_assoc]
        exact List.perm_append_comm.append_right _
      have nd2 := hp.nodup_iff.mp nd
      exact (List.nodup_append.mp nd2).2.2 a m1 a m rfl
    have h2 : Ow K mg (frz Hf H a1) (frz Hf H a1).h v o a1 := owMono (frzSame s.same a1) h fun a m => frzAt m
    refine ⟨frz Hf H a1, a2, frzIn s a1 (fun a m => (hnn a (List.mem_append_right _ (List.mem_append_left _ m))).1.2), he, .cons (as := []) (owFr h2) (owLMono (frzSame s.same a1) t fun a m => rfl), nd.sublist sub, fun a m => ?_, fun p m => ?_⟩
    · exact ⟨frzNot (dj a m) (hnn a (sub.subset m)).1, (hnn a (sub.subset m)).2⟩
    · obtain ⟨bs, h⟩ := hw p m
      exact ⟨bs, owMono (frzSame s.same a1) h fun a m => rfl⟩
theorem owLGetO : ∀ {vs : List V} {os : List O} {as : List Addr}, OwL K mg Hf H vs os as → ∀ {j : Nat} {v : V} {o : O}, vs[j]? = some v → os[j]? = some o → ∃ bs, Ow K mg Hf H v o bs
  | _, _, _, .nil, j, v, o, h, _ => by simp at h
  | _, _, _, .cons h t, 0, v, o, h1, h2 => by
    simp only [List.getElem?_cons_zero, Option.some.injEq] at h1 h2
    subst h1; subst h2
    exact ⟨_, h⟩
  | _, _, _, .cons h t, j + 1, v, o, h1, h2 => owLGetO t (j := j) (by simpa using h1) (by simpa using h2)
end
section
variable {X : Cx} {W : WX} {pu pv pw : Bool} {H H' : Hp} {Ex : List (Addr × HO)} {σ σ' : L2.St} {g : Gs} {T T' ws ws' rs : Roots} {e a b o lo hi : Expr} {es : List Expr} {m : M O} {mp : M Pth} {ms : M (List O)} {pos p p2 apos : Pos} {k j np : Nat} {x : Str}
def unM (m : M O) : M O := M.bd m fun o g => .ok (unfr o) g
theorem ep_un (h : EvP X W pu e m) : EvP X W pu e (unM m) := by
  obtain ⟨t, h1, h2⟩ := h.ex
  exact ⟨t, h1, fun σ H Q g T Ex ws a w => h2 σ H Q g T Ex ws a (w.bd.imp (fun o g' k v H' s a' => k v H' s ⟨a'.fit, a'.rel.unfr⟩) fun _ _ k => k)⟩
/-- what is ground, seen, is had -/
def cpM (m : M O) : M O := M.bd m fun o g => if o.isG = true then .ok o g else .bad
theorem ev_cp (h : EvP X W pu e m) : Ev X W pu e (cpM m) := by
  obtain ⟨t, h1, h2⟩ := h.ex
  refine ⟨t, h1, fun σ H Q g T Ex ws a w => h2 σ H Q g T Ex ws a (w.bd.imp (fun o g' k v H' s a' => ?_) fun _ _ k => k)⟩
  split at k
  · rename_i hg
    refine k v H' s (.ofTop a'.fit ?_)
    exact (a'.rel.ofViewG hg).views fun p m => List.mem_cons_of_mem _ m
  · exact k.elim
end
end Z
namespace Z
open PySem PySem.Spec L2
end Z
namespace Z
open PySem PySem.Spec L2
def elV : O → Int → Option O
  | .d (.list ds), i => (atI ds i).map O.d
  | .d (.tuple ds), i => (atI ds i).map O.d
  | .gL ds, i => (atI ds i).map O.d
  | .gT ds, i => (atI ds i).map O.d
  | .lst os, i => atI os i
  | .tup os, i => atI os i
  | .fr (.lst os), i => (atI os i).map mkFr
  | .fr (.tup os), i => (atI os i).map mkFr
  | _, _ => none
section
variable {K : PySem.W.Frag} {mg : Str → Option Value} {H H' : Hp} {Ex : List (Addr × HO)} {rs ws : Roots} {Hf : Fz}
theorem atI_pair {α β : Type} {l : List α} {m : List β} {i : Int} {z : β} (hl : l.length = m.length) (h : atI m i = some z) : ∃ (j : Nat) (u : α), atI l i = some u ∧ l[j]? = some u ∧ m[j]? = some z := by
  unfold atI at h ⊢
  rw [hl]
  cases q : ixN m.length i with
  | none => rw [q] at h; cases h
  | some j =>
    rw [q] at h
    have hj := ixN_lt q
    exact ⟨j, l[j]'(by omega), by rw [Option.bind_some]; exact List.getElem?_eq_getElem _, List.getElem?_eq_getElem _, h⟩
theorem elSee {v : V} {o z : O} {as : List Addr} {i : Int} (s : Hf.on K H) (h : Ow K mg Hf H v o as) (e : elV o i = some z) : ∃ ad vs u cs, v = .ref ad ∧ (SqL K H ad vs ∨ SqT K H ad vs) ∧ atI vs i = some u ∧ Ow K mg Hf H u z cs := by
  have dat : ∀ {ds : List PyData}, asLT o = some ds → (atI ds i).map O.d = some z → ∃ ad vs u cs, v = .ref ad ∧ (SqL K H ad vs ∨ SqT K H ad vs) ∧ atI vs i = some u ∧ Ow K mg Hf H u z cs := fun {ds} ha he => by
    obtain ⟨ad, vs, e3, sq, p⟩ := owLTseq s h ha
    obtain ⟨x, hx, rfl⟩ := Option.map_eq_some_iff.mp he
    obtain ⟨u, e4, dv⟩ := atI_dp p hx
    exact ⟨ad, vs, u, [], e3, sq, e4, .d dv⟩
  cases o with
  | d x => cases x <;> first | (simp [elV] at e; done) | exact dat rfl e
  | gL ds => exact dat rfl e
  | gT ds => exact dat rfl e
  | lst os =>
    cases h with
    | lst q t =>
      obtain ⟨j, u, h1, h2, h3⟩ := atI_pair (owLLen t) e
      obtain ⟨cs, hc⟩ := owLGetO t h2 h3
      exact ⟨_, _, u, cs, rfl, .inl (SqL.of q), h1, hc⟩
  | tup os =>
    cases h with
    | tup q t =>
      obtain ⟨j, u, h1, h2, h3⟩ := atI_pair (owLLen t) e
      obtain ⟨cs, hc⟩ := owLGetO t h2 h3
      exact ⟨_, _, u, cs, rfl, .inr (SqT.of q), h1, hc⟩
  | fr o =>
    cases h with
    | fr n h =>
      cases o with
      | lst os =>
        obtain ⟨y, hy, rfl⟩ := Option.map_eq_some_iff.mp e
        cases h with
        | lst q t =>
          obtain ⟨j, u, h1, h2, h3⟩ := atI_pair (owLLen t) hy
          obtain ⟨cs, hc⟩ := owLGetO t h2 h3
          exact ⟨_, _, u, [], rfl, .inl (SqL.of (s.same _ _ q)), h1, owFr hc⟩
      | tup os =>
        obtain ⟨y, hy, rfl⟩ := Option.map_eq_some_iff.mp e
        cases h with
        | tup q t =>
          obtain ⟨j, u, h1, h2, h3⟩ := atI_pair (owLLen t) hy
          obtain ⟨cs, hc⟩ := owLGetO t h2 h3
          exact ⟨_, _, u, [], rfl, .inr (SqT.of (s.same _ _ q)), h1, owFr hc⟩
      | _ => simp [elV] at e
  | _ => simp [elV] at e
end
section
variable {X : Cx} {W : WX} {pu pv pw : Bool} {H H' : Hp} {Ex : List (Addr × HO)} {σ σ' : L2.St} {g : Gs} {T T' ws ws' rs : Roots} {e a b o lo hi d : Expr} {es : List Expr} {m md mk mx : M O} {mp : M Pth} {ms : M (List O)} {pos p p2 apos : Pos} {k j np : Nat} {x : Str}
/-- an operation that tells something that is seen -/
def PRV (X : Cx) (r : List V → Hp → VK → Prop) (f : List O → Option O) : Prop :=
  ∀ (xs : List V) (os : List O) (H : Hp) (Ex : List (Addr × HO)) (rs ws : Roots) (Q : VK) (o : O), xs.length = os.length → Rel X.K X.mg H Ex rs (xs.zip os ++ ws) → f os = some o →
    (∀ v, Rel X.K X.mg H Ex rs ((v, o) :: (xs.zip os ++ ws)) → Q v H) → r xs H Q
theorem opCoreV {r : List V → Hp → VK → Prop} {f : List O → Option O} {ms : M (List O)} {ts : List TE} (pr : PRV X r f)
    (g2 : ∀ (σ : L2.St) (H : Hp) (Q : List V → Hp → Prop) (g : Gs) (T : Roots) (Ex : List (Addr × HO)) (ws : Roots), At X H Ex σ g T ws →
      Wp (ms g) (fun os g' => ∀ vs H', vs.length = os.length → (pu = true → g' = g ∧ Same H H') → At X H' Ex σ g' T (vs.zip os ++ Vs pu ws) → Q vs H')
        (fun x g' => ∀ H' cls d, At X H' Ex σ g' T [] → ExAt X.mg Ex cls d H' x → W cls d σ H') → tAll ts σ H Q) :
    ∀ (σ : L2.St) (H : Hp) (Q : VK) (g : Gs) (T : Roots) (Ex : List (Addr × HO)) (ws : Roots), At X H Ex σ g T ws →
      Wp (opM f ms g) (fun o g' => ∀ v H', (pu = true → g' = g ∧ Same H H') → At X H' Ex σ g' T ((v, o) :: Vs pu ws) → Q v H')
        (fun x g' => ∀ H' cls d, At X H' Ex σ g' T [] → ExAt X.mg Ex cls d H' x → W cls d σ H') → tAll ts σ H fun xs H2 => r xs H2 Q := fun σ H Q g T Ex ws a w => by
  refine g2 σ H _ g T Ex ws a (w.bd.imp (fun os g' k vs H' hl s a' => ?_) fun _ _ k => k)
  obtain ⟨o, ho, k⟩ := wpLift k
  refine pr vs os H' Ex _ _ Q o hl a'.rel ho fun v r2 => k v H' s ⟨a'.fit, r2.views fun p m => ?_⟩
  rcases List.mem_cons.mp m with e | m
  · exact List.mem_cons.mpr (.inl e)
  · exact List.mem_cons_of_mem _ (List.mem_append_right _ m)
def elF : List O → Option O
  | [o, .d (.int i)] => elV o i
  | _ => none
theorem pr_el : PRV X (r2L (rIx X.K)) elF := by
  intro xs os H Ex rs ws Q z hl r hf k
  unfold elF at hf
  split at hf
  · rename_i o i
    obtain ⟨x, y, rfl⟩ := two hl
    obtain ⟨Hf, as, s, he, ho, nd, hn, hw⟩ := r.ex
    obtain ⟨b1, h1⟩ := hw _ zipHead
    obtain ⟨_, h2⟩ := hw _ zipSnd
    obtain rfl := owI h2
    obtain ⟨ad, vs, u, cs, e1, sq, e2, hc⟩ := elSee s h1 hf
    simp only at e1
    subst e1
    have fin := k u ⟨Hf, as, s, he, ho, nd, hn, fun p m => by
      rcases List.mem_cons.mp m with e | m
      · subst e; exact ⟨cs, hc⟩
      · exact hw p m⟩
    rcases sq with sq | sq
    · exact .inl ⟨ad, vs, i, u, rfl, rfl, sq, e2, fin⟩
    · exact .inr (.inl ⟨ad, vs, i, u, rfl, rfl, sq, e2, fin⟩)
  · cases hf
theorem ep_el (h : EvAs X W pu [a, b] ms) (hs : PlainIx b := by exact fun _ _ => rfl) : EvP X W pu (.Subscript a b pos) (opM elF ms) := by
  obtain ⟨ts, g1, g2⟩ := h.ex
  cases g1 with
  | cons p1 _ g1 =>
    cases g1 with
    | cons p2 _ g1 =>
      cases g1
      exact ⟨_, pe_ix ix_seq p1 p2 hs, opCoreV pr_el g2⟩
end
end Z
namespace Z
open PySem PySem.Spec L2
end Z
namespace Z
open PySem PySem.Spec L2
section
variable {X : Cx} {W : WX} {pu pv pw : Bool} {H H' : Hp} {Ex : List (Addr × HO)} {σ σ' : L2.St} {g : Gs} {T T' ws ws' rs : Roots} {e a b o lo hi d : Expr} {es : List Expr} {m md mk mx : M O} {mp : M Pth} {ms : M (List O)} {pos p p2 apos : Pos} {k j np : Nat} {x : Str}
structure EvGO (X : Cx) (np : Nat) (ts : List Expr) (f : List O → M Unit) : Prop where
  ex : ∃ t, PGs X ts t ∧ ∀ (σ : L2.St) (H : Hp) (Q : L2.St → Hp → Prop) (g : Gs) (T : Roots) (Ex : List (Addr × HO)) (vs : List V) (os : List O) (B : Exn → Gs → Prop), vs.length = os.length → At X H Ex σ g (vs.zip os ++ T) [] →
    Wp (f os g) (fun _ g' => ∀ σ' H', Pin np σ σ' → At X H' Ex σ' g' T [] → Q σ' H') B → t vs σ H Q
def nilO : List O → M Unit
  | [] => M.ret ()
  | _ => M.no
def conO (i : Nat) (f : List O → M Unit) : List O → M Unit
  | x :: r => M.bd (setM i x) fun _ => f r
  | _ => M.no
theorem ego_nil : EvGO X np [] nilO := ⟨_, pgs_nil, fun σ H Q g T Ex vs ds B hl a w => by
  cases ds with
  | nil =>
    cases vs with
    | nil => exact ⟨rfl, w σ H .refl a⟩
    | cons v vs => simp at hl
  | cons x r => exact w.elim⟩
theorem ego_cons (i : Nat) {x : Str} {f : List O → M Unit} (hnp : np ≤ i) (hN : X.N.Nodup) (hi : X.N[i]? = some x) (hx : Loc X.env.scope x) (hs : EvGO X np es f) (hf : X.fn x = true ∨ X.env.scope.names.lookup x = some .local := by first | exact .inl rfl | exact .inr rfl | assumption)
    (hst : (assignEach (.Name x pos :: es) X.env).map (·.2) = assign (.Name x pos) X.env :: (assignEach es X.env).map (·.2) := by rfl) : EvGO X np (.Name x pos :: es) (conO i f) := by
  obtain ⟨u, g1, g2⟩ := hs.ex
  refine ⟨_, pgs_cons (pg_name hN hi hx hf) g1 hst, fun σ H Q g T Ex vs ds B hl a w => ?_⟩
  cases ds with
  | nil => exact w.elim
  | cons y r =>
    cases vs with
    | nil => simp at hl
    | cons v vs =>
      have w' : Wp (f r (g.set i (some y))) _ _ := w
      exact ⟨v, vs, rfl, g2 _ H _ _ T Ex vs r B (by simpa using hl) (At.storeAny a) (w'.imp (fun _ g' k σ' H' p a' => k σ' H' ((Pin.set hnp).trans p) a') fun _ _ k => k)⟩
theorem Rel.isTupO {K : PySem.W.Frag} {mg : Str → Option Value} {v : V} {os : List O} (r : Rel K mg H Ex ((v, .tup os) :: rs) ws) : ∃ a vs, v = .ref a ∧ SqT K H a vs ∧ vs.length = os.length ∧ Rel K mg H Ex (vs.zip os ++ rs) ws := by
  obtain ⟨ad, ho, vs, os1, e1, e2, p, hl, r2⟩ := r.opn rfl
  cases p
  obtain ⟨Hf, as, s, he, hob, nd, hn, hw⟩ := r2.ex
  refine ⟨ad, vs, e1, SqT.of e2, hl, ⟨Hf, as, s, fun e m => he e (List.mem_cons_of_mem _ m), hob, (List.nodup_cons.mp nd).2, fun a m => hn a (List.mem_cons_of_mem _ m), hw⟩⟩
def tuoG (f : List O → M Unit) : O → M Unit
  | .tup os => f os
  | .d (.tuple ds) => f (ds.map O.d)
  | _ => M.no
theorem tuoG_is {f : List O → M Unit} {o : O} {g : Gs} {A : Unit → Gs → Prop} {B : Exn → Gs → Prop} (w : Wp (tuoG f o g) A B) : (∃ os, o = .tup os ∧ Wp (f os g) A B) ∨ ∃ ds, o = .d (.tuple ds) ∧ Wp (f (ds.map O.d) g) A B := by
  cases o with
  | tup os => exact .inl ⟨_, rfl, w⟩
  | d x => cases x <;> first | exact w.elim | exact .inr ⟨_, rfl, w⟩
  | _ => exact w.elim
theorem eg_tuo {kk : Nat} {f : List O → M Unit} {n : Nat} (hc : X.calm = true) (h : EvGO X np es f) (hn : (assignEach es X.env).length = n := by rfl) (hst : (assignEach es X.env).findIdx? (·.1) = none := by rfl)
    (hb : ∀ ds g, ds.length ≠ n → f ds g = .bad) : EvG X W np (.Tuple es kk pos) (tuoG f) := by
  obtain ⟨u, g1, g2⟩ := h.ex
  refine ⟨_, pg_tup hc g1 hn hst, fun σ H Q g T Ex v o a w => ?_⟩
  rcases tuoG_is w with ⟨os, rfl, w2⟩ | ⟨ds, rfl, w2⟩
  · obtain ⟨ad, vs, e1, e2, hl, r⟩ := a.top.isTupO
    have hdn : os.length = n := by
      by_cases z : os.length = n
      · exact z
      · rw [hb os g z] at w2; exact w2.elim
    exact ⟨ad, vs, e1, e2, hl.trans hdn, g2 σ H Q g T Ex vs os _ hl ⟨a.fit, r.perm (List.perm_append_comm_assoc _ _ _)⟩ w2⟩
  · obtain ⟨ad, vs, e1, e2, hl, r⟩ := a.top.isTup
    have hdn : ds.length = n := by
      by_cases z : ds.length = n
      · exact z
      · rw [hb _ g (by simpa using z)] at w2; exact w2.elim
    exact ⟨ad, vs, e1, e2, hl.trans hdn, g2 σ H Q g T Ex vs (ds.map O.d) _ (by simpa using hl) ⟨a.fit, r.perm (List.perm_append_comm_assoc _ _ _)⟩ w2⟩
theorem cgo_nil : ∀ (ds : List O) (g : Gs), ds.length ≠ 0 → nilO ds g = .bad
  | [], _, h => (h rfl).elim
  | _ :: _, _, _ => rfl
theorem cgo_cons {i n : Nat} {f : List O → M Unit} (h : ∀ (ds : List O) (g : Gs), ds.length ≠ n → f ds g = .bad) : ∀ (ds : List O) (g : Gs), ds.length ≠ n + 1 → conO i f ds g = .bad := by
  intro ds g hn
  cases ds with
  | nil => rfl
  | cons d r => exact h r _ (by simpa using hn)
end
end Z
namespace G
open PySem PySem.Spec L2 Z
end G
namespace Z
open PySem PySem.Spec L2
class UnfC (o : O) (o' : outParam O) : Prop where
  eq : unfr o = o'
instance unfF {x : O} : UnfC (.fr x) x := ⟨rfl⟩
class GrC (o : O) : Prop where
  eq : o.isG = true
instance grF {x : O} : GrC (.fr x) := ⟨rfl⟩
def UnK (A : O → Gs → Prop) (o : O) (g : Gs) : Prop := A (unfr o) g
def CpK (A : O → Gs → Prop) (o : O) (g : Gs) : Prop := o.isG = true ∧ A o g
section
variable {g g1 g' : Gs} {i : Nat} {os : List O}
instance takFR {as : List Arg} {x : O} [p : Put g i none g1] [t : TakC as g1 os g'] : TakO as i (.fr x) g os g' := ⟨fun h => by rw [takeA, h]; simp only [p.put, t.eq]⟩
end
section
variable {g : Gs} {i j l : Nat} {os ps : List O} {o x y z : O}
theorem getPl_nil (h : g[i]? = some (some o)) : getPl g i [] = some o := by unfold getPl; rw [h]; rfl
theorem setPl_nil (h : g[i]? = some (some o)) : setPl g i [] x = g.set i (some x) := by unfold setPl; rw [h]; rfl
end
section
variable {A : O → Gs → Prop} {AU : Unit → Gs → Prop} {AF : Fl → Gs → Prop} {AP : Pth → Gs → Prop} {AD : List PyData → Gs → Prop} {B : Exn → Gs → Prop} {g g' : Gs} {m n md mk mx mi : M O} {mp : M Pth} {i : Nat} {o : O} {os os' : List O} {AO : O → Prop} {x : Int} {ds es : List PyData} {f : List O → M Unit}
instance s_conO [p : Put g i (some o) g'] : Stp (Wp (conO i f (o :: os) g) AU B) (Wp (f os g') AU B) := ⟨fun h => by
  show Wp (M.bd (setM i o) (fun _ => f os) g) AU B
  rw [wp_bd]
  exact z_set p.put h⟩
instance s_nilO : Stp (Wp (nilO [] g) AU B) (AU () g) := ⟨fun h => h⟩
instance s_tuoG : Stp (Wp (tuoG f (.tup os) g) AU B) (Wp (f os g) AU B) := ⟨fun h => h⟩
instance s_un : Stp (Wp (unM m g) A B) (Wp (m g) (UnK A) B) := ⟨fun h => by
  unfold unM
  exact (wp_bd (m := m)).mpr (h.mono (fun o g1 q => q) fun _ _ z => z)⟩
instance s_unK {o' : O} [c : UnfC o o'] : Stp (UnK A o g) (A o' g) := ⟨fun h => by unfold UnK; rw [c.eq]; exact h⟩
instance s_cp : Stp (Wp (cpM m g) A B) (Wp (m g) (CpK A) B) := ⟨fun h => by
  unfold cpM
  refine (wp_bd (m := m)).mpr (h.mono (fun o g1 q => ?_) fun _ _ z => z)
  rw [if_pos q.1]
  exact q.2⟩
instance s_cpK [c : GrC o] : Stp (CpK A o g) (A o g) := ⟨fun h => ⟨c.eq, h⟩⟩
end
end Z
namespace G
open PySem PySem.Spec L2 Z
theorem intsF_nat (n : Nat) : intsF 0 ((n : Nat) : Int).toNat = (List.range n).map fun (i : Nat) => PyData.int (i : Int) := by
  rw [intsF_map, Int.toNat_natCast, List.map_map]
  refine List.map_congr_left fun n _ => ?_
  simp
structure Rm where
  n : Nat
  st : List Int
  mv : O
structure Rm.Ok (b : Book) (r : Rm) : Prop where
  n : r.n < 2 ^ b.asks.length
  st : ∀ e ∈ r.st, 0 ≤ e ∧ e < b.deeds.length
  len : r.st.length ≤ 3
end G
namespace Z
open PySem PySem.Spec L2
end Z
namespace Z
open PySem PySem.Spec L2
end Z
namespace Z
open PySem PySem.Spec L2
end Z
namespace Z
open PySem PySem.Spec L2
end Z
namespace L2.DX
open PySem PySem.Spec PyProof.Rows
end L2.DX
namespace Z
open PySem PySem.Spec L2
end Z
namespace Z
open PySem PySem.Spec L2
end Z
namespace Z
open PySem PySem.Spec L2
section
variable {X : Cx} {W : WX} {pu pv pw : Bool} {H H' : Hp} {Ex : List (Addr × HO)} {σ σ' : L2.St} {g : Gs} {T T' ws ws' rs : Roots} {e a b o lo hi : Expr} {es : List Expr} {m mi mv : M O} {mp : M Pth} {ms : M (List Arg)} {pos p p2 apos ap : Pos} {k j np : Nat} {x : Str} {dfs : List PyData} {f : Fn}
/-- a thing that owns only data becomes data, else it stands still -/
def stV (o : O) : O := match o.fz with
  | some x => .d x
  | none => mkFr o
def stF (o : O) : O := match o with
  | .dK kos => .fr (.dK (kos.map fun p => (p.1, stV p.2)))
  | .dT kos => .fr (.dT (kos.map fun p => (p.1, stV p.2)))
  | o => stV o
theorem Rel.stV {K : PySem.W.Frag} {mg : Str → Option Value} {rs : Roots} {v : V} {o : O} (r : Rel K mg H Ex ((v, o) :: rs) ws) : Rel K mg H Ex ((v, Z.stV o) :: rs) ws := by
  unfold Z.stV
  split
  · rename_i x hx; exact r.fz hx
  · exact r.still
theorem Rel.stVs {K : PySem.W.Frag} {mg : Str → Option Value} : ∀ {vs : List V} {os : List O} {rs : Roots}, Rel K mg H Ex (vs.zip os ++ rs) ws → Rel K mg H Ex (vs.zip (os.map Z.stV) ++ rs) ws
  | [], _, _, r => by simpa using r
  | _ :: _, [], _, r => by simpa using r
  | v :: vs, o :: os, rs, r => by
    simp only [List.map_cons, List.zip_cons_cons, List.cons_append] at r ⊢
    have r2 : Rel K mg H Ex (vs.zip os ++ ((v, Z.stV o) :: rs)) ws := r.stV.perm List.perm_middle.symm
    exact (Rel.stVs r2).perm List.perm_middle
theorem Rel.stF {K : PySem.W.Frag} {mg : Str → Option Value} {rs : Roots} {v : V} {o : O} (r : Rel K mg H Ex ((v, o) :: rs) ws) : Rel K mg H Ex ((v, Z.stF o) :: rs) ws := by
  unfold Z.stF
  split
  · rename_i kos
    obtain ⟨ad, ho, vs, os, e1, e2, p, hl, r2⟩ := r.opn rfl
    cases p with
    | dK hk =>
      rename_i kvs
      subst e1
      have r3 := r2.stVs
      have m1 : (kos.map fun p => (p.1, Z.stV p.2)).map (·.1) = kos.map (·.1) := by rw [List.map_map]; rfl
      have m2 : (kos.map fun p => (p.1, Z.stV p.2)).map (·.2) = (kos.map (·.2)).map Z.stV := by rw [List.map_map, List.map_map]; rfl
      have o1 : Opn mg (.dK (kos.map fun p => (p.1, Z.stV p.2))) (.dK kvs) (kvs.map (·.2)) ((kos.map fun p => (p.1, Z.stV p.2)).map (·.2)) := .dK (by rw [m1]; exact hk)
      rw [m2] at o1
      exact (r3.shut o1 (by simpa using hl)).still
  · rename_i kos
    obtain ⟨ad, ho, vs, os, e1, e2, p, hl, r2⟩ := r.opn rfl
    cases p with
    | dT hk =>
      rename_i kvs
      subst e1
      have r3 := r2.stVs
      have m1 : (kos.map fun p => (p.1, Z.stV p.2)).map (·.1) = kos.map (·.1) := by rw [List.map_map]; rfl
      have m2 : (kos.map fun p => (p.1, Z.stV p.2)).map (·.2) = (kos.map (·.2)).map Z.stV := by rw [List.map_map, List.map_map]; rfl
      have o1 : Opn mg (.dT (kos.map fun p => (p.1, Z.stV p.2))) (.dT kvs) (kvs.map (·.2)) ((kos.map fun p => (p.1, Z.stV p.2)).map (·.2)) := .dT (by rw [m1]; exact hk)
      rw [m2] at o1
      exact (r3.shut o1 (by simpa using hl)).still
  · exact r.stV
def ghPF (i : Nat) (π : Pth) (m : M Fl) : M Fl := fun g => match getPl g i π with
  | some x => m (setPl g i π (stF x))
  | none => .bad
theorem ess_ghPF (i : Nat) (π : Pth) {ss : List Stmt} {m : M Fl} (h : EvSs X W np ss m) : EvSs X W np ss (ghPF i π m) := by
  obtain ⟨t, h1, h2⟩ := h.ex
  refine ⟨t, h1, fun σ H D g T Ex a w => ?_⟩
  unfold ghPF at w
  split at w
  · rename_i x hx
    have hg : ∃ o, g[i]? = some (some o) := by
      unfold getPl at hx
      split at hx
      · exact ⟨_, by assumption⟩
      · cases hx
    obtain ⟨o, hg⟩ := hg
    obtain ⟨v, hv⟩ := a.fit.at_ _ _ hg
    obtain ⟨w0, Ex', r1, wk, r2, cl⟩ := a.opnP hx hv
    obtain ⟨a2, _⟩ := cl H (stF x) T [] r2.stF
    exact h2 σ H D _ T Ex a2 w
  · exact w.elim
end
end Z
namespace Z
open PySem PySem.Spec L2
end Z
namespace Z
open PySem PySem.Spec L2
section
variable {A : O → Gs → Prop} {AU : Unit → Gs → Prop} {AF : Fl → Gs → Prop} {AR : List Arg → Gs → Prop} {AD : List PyData → Gs → Prop} {B : Exn → Gs → Prop} {g g' g1 : Gs} {m mo n : M O} {ms : M (List Arg)} {i jk k : Nat} {o q x : O} {os : List O} {c f mn : Str}
theorem wp_ghP {π : Pth} {mf : M Fl} (h : getPl g i π = some x) (k : Wp (mf (setPl g i π (stF x))) AF B) : Wp (ghPF i π mf g) AF B := by
  unfold ghPF
  rw [h]
  exact k
end
end Z
namespace Z
open PySem PySem.Spec L2
end Z
namespace Z
open PySem PySem.Spec L2
end Z
namespace Z
open PySem PySem.Spec L2
end Z
namespace L2
open PySem PySem.Spec PyProof.Rows
end L2
namespace Z
open PySem PySem.Spec L2
end Z
namespace Z
open PySem PySem.Spec L2
end Z
namespace EnL
open PySem PyProof.Rows
/-- the next item where the object still holds its last tuple -/
theorem heldD {prog : Program} {w : World} {A : Around} {E : Value → Shared → Prop} {s : Shared} {e it T : Addr} {fp : List Addr} {n i : Nat} {P : Nat → Value → Prop} {DS : Nat → Heap → Prop} {old : Value} {f : Bool} {oT : Obj} {Q : Value → Shared → Prop}
    (D : Draws prog w A it fp n P DS) (he : IsEnumHeld s.heap e it i old T f) (hT : s.heap.get? T = some oT) (hTe : T ≠ e) (hTi : T ≠ it) (hst : DS i s.heap) (hlt : i < n) (hne : e ≠ it) (hef : e ∉ fp)
    (hQ : ∀ x h' tk, P i x → IsEnumHeld h' e it ((i : Int) + 1) old T true → DS (i + 1) h' →
      h'.get? s.heap.objs.size = some { cls := .type "tuple", data := .seq #[.int i tk, x] } → h'.objs.size = s.heap.objs.size + 1 →
      (∀ b o, b ≠ e → b ≠ it → s.heap.get? b = some o → h'.get? b = some o) → Q (.ref s.heap.objs.size) { s with heap := h', toks := tk + 1 }) :
    wpAny (model prog w) A (Builtin.«enumerate.__next__» ⟨[.ref e], []⟩) (fun fin s' => ∃ v, fin = .done (.ret v) ∧ Q v s') E s := by
  obtain ⟨hp, g, d, tk₀, os⟩ := s
  show wpAny _ _ (field (.ref e) 2 >>= _) _ _ _
  refine wpAny_bind (wpAny_field he rfl (x := .ref it) rfl ?_)
  refine wpAny_bind (D.item i _ _ _ hlt hst fun x h₁ tk hPx hit₁ hs₁ => ?_)
  replace hs₁ : Heap.SameBut it hp h₁ := hs₁
  have he₁ : IsEnumHeld h₁ e it i old T f := (hs₁.2 e hne).trans he
  show wpAny _ _ (field (.ref e) 3 >>= _) _ _ ⟨h₁, g, d, tk, os⟩
  refine wpAny_bind (wpAny_field he₁ rfl (x := rawInt i) rfl ?_)
  show wpAny _ _ (field (.ref e) 4 >>= _) _ _ ⟨h₁, g, d, tk, os⟩
  refine wpAny_bind (wpAny_field he₁ rfl (x := .none) rfl ?_)
  show wpAny _ _ (mkInt i >>= _) _ _ ⟨h₁, g, d, tk, os⟩
  refine wpAny_bind (wpAny_mkInt ?_)
  show wpAny _ _ (setField (.ref e) 3 (rawInt ((i : Int) + 1)) >>= _) _ _ ⟨h₁, g, d, tk + 1, os⟩
  refine wpAny_bind (wpAny_setField_rec he₁ (by simp) fun h₂ he₂ hs₂ => ?_)
  replace hs₂ : Heap.SameBut e h₁ h₂ := hs₂
  replace he₂ : IsEnumHeld h₂ e it ((i : Int) + 1) old T f := he₂
  show wpAny _ _ (setField (.ref e) 4 .none >>= _) _ _ ⟨h₂, g, d, tk + 1, os⟩
  refine wpAny_bind (wpAny_setField_rec he₂ (by simp) fun h₃ he₃ hs₃ => ?_)
  replace hs₃ : Heap.SameBut e h₂ h₃ := hs₃
  replace he₃ : IsEnumHeld h₃ e it ((i : Int) + 1) old T f := he₃
  show wpAny _ _ (newTuple [.int i tk, x] >>= _) _ _ ⟨h₃, g, d, tk + 1, os⟩
  refine wpAny_bind (wpAny_newTuple ?_)
  have he₄ : IsEnumHeld (h₃.push { cls := .type "tuple", data := .seq #[.int i tk, x] }) e it ((i : Int) + 1) old T f := Heap.get?_push_of_some _ he₃
  generalize hh₄ : h₃.push { cls := .type "tuple", data := .seq #[.int i tk, x] } = h₄ at he₄
  have hsz : h₃.objs.size = hp.objs.size := by rw [hs₃.1, hs₂.1, hs₁.1]
  have hel : e < hp.objs.size := Heap.lt_size he
  have ht₄ : h₄.get? hp.objs.size = some { cls := .type "tuple", data := .seq #[.int i tk, x] } := by rw [← hh₄, ← hsz]; exact Heap.get?_push_size _ rfl
  have hz₄ : h₄.objs.size = hp.objs.size + 1 := by rw [← hh₄, Heap.size_push, hsz]
  have hk₄ : ∀ b o, b ≠ e → b ≠ it → hp.get? b = some o → h₄.get? b = some o := fun b o hbe hbi hb => by
    rw [← hh₄]; exact Heap.get?_push_of_some _ (hs₃.extBut b o hbe (hs₂.extBut b o hbe (hs₁.extBut b o hbi hb)))
  have hit₄ : DS (i + 1) h₄ := D.frame _ _ _ hit₁ fun b hb o y => by
    have hbe : b ≠ e := fun q => hef (q ▸ hb)
    rw [← hh₄]; exact Heap.get?_push_of_some _ (hs₃.extBut b o hbe (hs₂.extBut b o hbe y))
  show wpAny _ _ (Builtin.SmallTypes.ownedTupleIsFree (.ref e) >>= _) _ _ ⟨h₄, g, d, tk + 1, os⟩
  rw [hsz]
  clear hh₄ he₃ hs₃ he₂ hs₂ he₁ hs₁ hit₁ hsz h₃ h₂ h₁
  refine wpAny_bind (wpAny_tupleHeld_enum (s := ⟨h₄, g, d, tk + 1, os⟩) he₄ (hk₄ T oT hTe hTi hT) fun h₅ he₅ hs₅ => ?_)
  replace hs₅ : Heap.SameBut e h₄ h₅ := hs₅
  simp only [Bool.false_eq_true, if_false]
  refine wpAny_pure ⟨_, rfl, hQ x h₅ tk hPx he₅ (D.frame _ _ _ hit₄ fun b hb o y => hs₅.extBut b o (fun q => hef (q ▸ hb)) y) (hs₅.extBut _ _ (Nat.ne_of_gt hel) ht₄) ?_ fun b o hbe hbi hb => hs₅.extBut b o hbe (hk₄ b o hbe hbi hb)⟩
  show h₅.objs.size = hp.objs.size + 1
  rw [hs₅.1, hz₄]
theorem heldItem {prog : Program} {w : World} {A : Around} {E : Value → Shared → Prop} {s : Shared} {e it T : Addr} {fp : List Addr} {n i : Nat} {P : Nat → Value → Prop} {DS : Nat → Heap → Prop} {old : Value} {f : Bool} {oT : Obj} {Q : Option Value → Shared → Prop}
    (D : Draws prog w A.in1 it fp n P DS) (he : IsEnumHeld s.heap e it i old T f) (hT : s.heap.get? T = some oT) (hTe : T ≠ e) (hTi : T ≠ it) (hst : DS i s.heap) (hlt : i < n) (hne : e ≠ it) (hef : e ∉ fp)
    (hQ : ∀ x h' tk, P i x → IsEnumHeld h' e it ((i : Int) + 1) old T true → DS (i + 1) h' →
      h'.get? s.heap.objs.size = some { cls := .type "tuple", data := .seq #[.int i tk, x] } → h'.objs.size = s.heap.objs.size + 1 →
      (∀ b o, b ≠ e → b ≠ it → s.heap.get? b = some o → h'.get? b = some o) → Q (some (.ref s.heap.objs.size)) { s with heap := h', toks := tk + 1 }) :
    wpAny (model prog w) A (pyNext (.ref e)) Q E s := by
  have hTy : s.TypeIs (.ref e) "enumerate" := ⟨_, he, rfl⟩
  unfold pyNext
  exact wpAny_bind (wpAny_attempt (wpAny_callSpecial?_slot (name := Str.ofString "__next__") hTy F.slot_enumerate_next
    (wpAny_call_entry F.slot_enumerate_next hTy F.entry_enumerate_next
      (heldD D he hT hTe hTi hst hlt hne hef fun x h' tk a1 a2 a3 a4 a5 a6 => wpAny_pure (hQ x h' tk a1 a2 a3 a4 a5 a6)) (F.args_enumerate_next_1 _))))
theorem heldEnd {prog : Program} {w : World} {A : Around} {E : Value → Shared → Prop} {s : Shared} {e it T : Addr} {fp : List Addr} {n : Nat} {i : Int} {P : Nat → Value → Prop} {DS : Nat → Heap → Prop} {old : Value} {f : Bool} {Q : Option Value → Shared → Prop}
    (D : Draws prog w A.in1 it fp n P DS) (he : IsEnumHeld s.heap e it i old T f) (hst : DS n s.heap)
    (hQ : ∀ h', Heap.ExtBut it s.heap h' → Q none { s with heap := h' }) : wpAny (model prog w) A (pyNext (.ref e)) Q E s := by
  have hTy : s.TypeIs (.ref e) "enumerate" := ⟨_, he, rfl⟩
  unfold pyNext
  refine wpAny_bind (wpAny_attempt (wpAny_callSpecial?_slot (name := Str.ofString "__next__") hTy F.slot_enumerate_next
    (wpAny_call_entry F.slot_enumerate_next hTy F.entry_enumerate_next ?_ (F.args_enumerate_next_1 _))))
  show wpAny _ _ (field (.ref e) 2 >>= _) _ _ _
  refine wpAny_bind (wpAny_field he rfl (x := .ref it) rfl ?_)
  refine wpAny_bind (D.done _ _ _ hst fun h' x he' hx' => ?_)
  obtain ⟨o, ho, hc⟩ := hx'
  refine wpAny_bind (wpAny_isInstance (T := "StopIteration") (b := true) ⟨o, ho, hc⟩ isSubtype_stop ?_)
  exact wpAny_pure (hQ _ he')
/-- an enumerate object that has told i items -/
def St (DS : Nat → Heap → Prop) (S : Addr) (h : Heap) (e it : Addr) (i : Nat) : Prop := DS i h ∧ ((∃ old, IsEnum h e it i old) ∨ ∃ old T f oT, IsEnumHeld h e it i old T f ∧ h.get? T = some oT ∧ T ≠ e ∧ T ≠ it ∧ T ≠ S)
section
variable {prog : Program} {w : World} {A : Around} {E : Value → Shared → Prop} {s : Shared} {e it : Addr} {fp : List Addr} {DS : Nat → Heap → Prop} {items : Array Value} {i : Nat} {Q : Option Value → Shared → Prop}
theorem next {S : Addr} (D : Draws prog w A.in1 it fp items.size (fun i x => items[i]? = some x) DS) (hS : S < s.heap.objs.size) (st : St DS S s.heap e it i) (hi : i < items.size) (hei : e ≠ it) (hef : e ∉ fp)
    (hQ : ∀ h' t tk, St DS S h' e it (i + 1) → h'.get? s.heap.objs.size = some { cls := .type "tuple", data := .seq #[.int i t, items[i]] } → h'.objs.size = s.heap.objs.size + 1 →
      (∀ b o, b ≠ e → b ≠ it → s.heap.get? b = some o → h'.get? b = some o) → Q (some (.ref s.heap.objs.size)) { s with heap := h', toks := tk }) : wpAny (model prog w) A (pyNext (.ref e)) Q E s := by
  obtain ⟨hd, he⟩ := st
  have ec : ((i + 1 : Nat) : Int) = (i : Int) + 1 := by omega
  have nit : s.heap.objs.size ≠ it := let ⟨_, x⟩ := D.live _ _ hd; Nat.ne_of_gt (Heap.lt_size x)
  have ix : ∀ {x}, items[i]? = some x → items[i] = x := fun {x} q => by rw [Array.getElem?_eq_getElem hi] at q; exact Option.some.inj q
  rcases he with ⟨old, he⟩ | ⟨old, T, f, oT, he, hT, r1, r2, r3⟩
  · refine wpAny_pyNext_enum_itemD D he hd hi hei hef fun x h' tk hP ho hd' hT hsz hk => ?_
    rw [← ix hP] at hT
    exact hQ h' _ _ ⟨hd', .inr ⟨_, s.heap.objs.size, false, _, (by rw [ec]; exact ho), hT, Nat.ne_of_gt (Heap.lt_size he), nit, Nat.ne_of_gt hS⟩⟩ hT hsz hk
  · refine heldItem D he hT r1 r2 hd hi hei hef fun x h' tk hP ho hd' hT' hsz hk => ?_
    rw [← ix hP] at hT'
    exact hQ h' _ _ ⟨hd', .inr ⟨old, T, true, oT, (by rw [ec]; exact ho), hk _ _ r1 r2 hT, r1, r2, r3⟩⟩ hT' hsz hk
theorem fin {S : Addr} (D : Draws prog w A.in1 it fp items.size (fun i x => items[i]? = some x) DS) (st : St DS S s.heap e it items.size) (hQ : ∀ h', Heap.ExtBut it s.heap h' → Q none { s with heap := h' }) : wpAny (model prog w) A (pyNext (.ref e)) Q E s := by
  obtain ⟨hd, he⟩ := st
  rcases he with ⟨old, he⟩ | ⟨old, T, f, oT, he, hT, r1, r2, r3⟩
  · exact wpAny_pyNext_enum_endD D he hd hQ
  · exact heldEnd D he hd hQ
end
end EnL
namespace Z
open PySem PySem.Spec L2
end Z
namespace Z
open PySem PySem.Spec L2
end Z
namespace Z
open PySem PySem.Spec PyProof.Rows L2
section
variable {X : Cx} {o e : Expr} {es : List Expr} {to te : TE} {ta : TA} {f : Str} {p p1 p2 pos : Pos}
/-- B.__init__(self, ..), B a class of the text over ValueError without its own -/
theorem pe_beinit {x : Str} {CB : Addr} {mc : Value} {pl : Sem Bool} (hg : Gl X x) (hm : X.mg x = some (.ref CB)) (rd : ClX.CRead X.K CB mc) (vV : PySem.W.findCls X.K (.ref CB) mc "__init__" = some (.val (.builtin "ValueError.__init__"))) (ha : PA X (e :: es) ta)
    (hdb : (x == ("__debug__" : Str)) = false := by decide)
    (hc : eval (.Call (.Attribute (.Name x p1) "__init__" p2) (e :: es) [] pos) X.env = (do
      let ov ← eval (.Name x p1) X.env
      standAt p2.atName
      let (f, first) ← holding [ov] (getMethod ov "__init__" pl)
      callWith pos f first (backTo pos (starEach (e :: es) X.env)) (backToKw pos (keywordEach [] X.env))) := by rfl)
    (he : starEach (e :: es) X.env = (false, eval e X.env) :: starEach es X.env := by rfl) (hpl : (backTo pos (starEach es X.env)).any (·.1) = false := by rfl) :
    PE X (.Call (.Attribute (.Name x p1) "__init__" p2) (e :: es) [] pos) (tVeI X.K ta) := by
  refine ⟨fun pins s σ H Q I h => ?_⟩
  refine PySem.W.methodCall_KW (ld_glob I hg hm ?_ hdb) hc
  refine PySem.W.method_cls I.kIn rd.ga (PySem.W.cls_value I.kIn rd.rd vV (by decide +kernel) ?_)
  show wpAny _ _ (callWith pos (Value.builtin "ValueError.__init__") [] (backTo pos (starEach (e :: es) X.env)) []) _ _ _
  refine PyProof.Rows.callWith_method1 (thn (ha.run pos pins _ σ H _ (I.tok _) h) fun us s1 ⟨vs, H1, I1, r1, a, C, ws, ev, hl, T, ea, q⟩ => ?_) he hpl
  subst ev
  cases r1 with
  | @cons _ u0 _ ur ra rw' =>
    obtain rfl : u0 = Value.ref a := ra
    have hlen : ur.length ≤ sizeLine := by
      rw [← Paired.length rw', sizeLine_eq]
      omega
    exact oinit_ok T I1 ea hlen fun s' J => ⟨.non, H1, J, rfl, q⟩
end
/-- what an __init__ of such a class does: one field, of its one argument -/
def spI (K : PySem.W.Frag) (fn : Str) : Sp := fun vs H Q E => ∃ (a C : Addr) (v : V), vs = [.ref a, v] ∧ OexC K C ∧ PySem.W.findIn K (.ref C) fn = some none ∧ H a = some (exo a C none) ∧
  ∀ dx, H dx = none → dx ≠ a → Q .non (upd (upd H dx (exd dx [(fn, v)])) a (exo a C (some dx)))
/-- an exception class of the text that is made with one thing, kept in a field -/
structure XMak (P : Program) (w : World) (K : PySem.W.Frag) (mg : Str → Option Value) (base : Heap) (c fn : Str) : Prop where
  ex : ∃ (C fI : Addr) (fd : FuncData) (ps : List Str), mg c = some (.ref C) ∧ OexC K C ∧ PySem.W.findIn K (.ref C) "__init__" = some (some (.ref fI)) ∧ PySem.W.typeIn K (.ref fI) = some (.type "function") ∧
    PySem.W.findIn K (.ref C) fn = some none ∧ FnOk P w K mg base (L2.CX P w) 1 fI fd ps (spI K fn) ∧ L2.Binds K fd ps []
/-- its __init__ -/
theorem initRule {P : Program} {w : World} {K : PySem.W.Frag} {mg : Str → Option Value} {base : Heap} {qual : Str} {st : Stmt} {f : Addr} {fd : FuncData} {N ps : List Str} {fn : Str} (F : Fun K "__init__" qual st f fd) (S : FnScope N ps (defScope st)) (hps : ps.length = 2)
    (hb : ∀ (cdv : Value) (A : Around) (outer : List Env) (s : Shared) (H : Hp) (E : XK) (a C : Addr) (v : V), OexC K C → PySem.W.findIn K (.ref C) fn = some none →
      ∃ t, PSs (cxOf (L2.CX P w) P w K mg base N qual (defScope st) f cdv A outer s H E) (defBody st) t ∧ ∀ (D : Ends) (σ : L2.St), σ[0]? = some (some (.ref a)) → σ[1]? = some (some v) → H a = some (exo a C none) →
        (∀ dx, H dx = none → dx ≠ a → D.nx σ (upd (upd H dx (exd dx [(fn, v)])) a (exo a C (some dx)))) → t D σ H) :
    FnOk P w K mg base (L2.CX P w) 1 f fd ps (spI K fn) := by
  refine F.okX (k := 0) S (fun vs H Q E h => ?_) (fun cdv A outer s H vs Q E hr h => ?_)
  · obtain ⟨a, C, v, e, _⟩ := h
    rw [e, hps]; rfl
  · obtain ⟨a, C, v, e, T, hno, ha, q⟩ := h
    subst e
    obtain ⟨t, h1, h2⟩ := hb cdv A outer s H E a C v T hno
    exact ⟨t, h1, h2 _ _ rfl rfl ha fun dx n ne => q dx n ne⟩
end Z
namespace Z
open PySem PySem.Spec PyProof.Rows L2
def raiM (c f : Str) (m : M O) : M Fl := M.bd m fun o g => match o with
  | .d x => if flatF x = true then .ex ⟨c, [(f, x)]⟩ g else .bad
  | _ => .bad
theorem wpRai {o : O} {c f : Str} {g : Gs} {A : Fl → Gs → Prop} {B : Exn → Gs → Prop} (h : Wp ((fun o g => match o with
  | O.d x => if flatF x = true then .ex ⟨c, [(f, x)]⟩ g else .bad
  | _ => .bad : O → M Fl) o g) A B) : ∃ x, o = .d x ∧ flatF x = true ∧ B ⟨c, [(f, x)]⟩ g := by
  cases o with
  | d x =>
    dsimp only at h
    split at h
    · rename_i q; exact ⟨x, rfl, q, h⟩
    · exact h.elim
  | _ => exact h.elim
theorem flat_v {K : PySem.W.Frag} {H : Hp} {v : V} {x : PyData} (h : Dp K H v x) (f : flatF x = true) : v = vF x := by
  cases h with
  | non => rfl
  | bl b => rfl
  | int i => rfl
  | str s => rfl
  | lst _ _ => cases f
  | tup _ _ _ => cases f
  | ftup _ _ _ _ => cases f
  | ktup _ _ _ _ _ => cases f
theorem Rel.flat {K : PySem.W.Frag} {mg : Str → Option Value} {H : Hp} {Ex : List (Addr × HO)} {rs ws : Roots} {v : V} {x : PyData} (r : Rel K mg H Ex ((v, .d x) :: rs) ws) (f : flatF x = true) : v = vF x := by
  obtain ⟨Hf, as, s, he, ho, nd, hn, hw⟩ := r.ex
  cases ho with
  | cons h t => cases h with | d h => exact flat_v h f
theorem Rel.notEx {K : PySem.W.Frag} {mg : Str → Option Value} {H : Hp} {Ex : List (Addr × HO)} {rs ws : Roots} {d : Addr} (r : Rel K mg H Ex rs ws) (h : H d = none) : d ∉ Ex.map (·.1) := by
  obtain ⟨Hf, as, s, he, ho, nd, hn, hw⟩ := r.ex
  intro m
  obtain ⟨e, me, rfl⟩ := List.mem_map.mp m
  rw [he e me] at h; cases h
theorem upd_del_exo {H : Hp} {a C d : Addr} {fs : List (Str × V)} (na : H a = none) (nd : d ≠ a) :
    upd (L2.del (upd (upd (upd H a (exo a C none)) d (exd d fs)) a (exo a C (some d))) a) d (.xd fs) = upd H d (.xd fs) := by
  funext b
  by_cases hd : b = d
  · rw [hd, upd_same, upd_same]
  · rw [upd_ne hd, upd_ne hd]
    by_cases ha : b = a
    · rw [ha, L2.del_same, na]
    · rw [L2.del_ne ha, upd_ne ha, upd_ne hd, upd_ne ha]
theorem sameUpd {H : Hp} {a : Addr} {o : HO} (h : H a = none) : Same H (upd H a o) := fun b u e => by
  rw [upd_ne fun z => by rw [z, h] at e; cases e]
  exact e
section
variable {X : Cx} {W : WX} {pu : Bool} {e : Expr} {m : M O} {pos pos' p : Pos} {k np : Nat}
theorem es_raise1 {c f x : Str} (cc : Cc X W k) (xm : XMak X.prog X.w X.K X.mg X.base c f) (hj : 2 ≤ k) (h : Ev X W pu e m) (hx : x = c := by rfl) (hg : Gl X x := by rfl)
    (hdb : (x == ("__debug__" : Str)) = false := by decide) (he : starEach [e] X.env = (false, eval e X.env) :: starEach [] X.env := by rfl) (hpl : (backTo pos (starEach [] X.env)).any (·.1) = false := by rfl) :
    EvS X W np (.Raise (some (.Call (.Name x p) [e] [] pos)) none pos') (raiM c f m) := by
  subst hx
  obtain ⟨C, fI, fd, ps, hm, T, iC, tI, hno, F, hb⟩ := xm.ex
  obtain ⟨t, h1, h2⟩ := h.ex
  refine ⟨_, ps_raise cc.calm cc.tk (pmk_oex T iC tI F (cc.hr.mono hj).r hb .nil (fun _ _ _ _ _ _ _ z => ?_) hg hm (pa_cons h1 pa_nil he) hdb he hpl), fun σ H D g T0 Ex a w => ?_⟩
  · obtain ⟨_, _, _, _, _, _, _, _, _, _, _, _, z⟩ := z
    exact z.elim
  refine h2 σ H _ g T0 Ex [] a (w.bd.imp (fun o g' kk v H1 s a' => ?_) fun x g' kk H' cls d a' e => kk σ H' cls d .refl a' e)
  obtain ⟨x, rfl, fx, kk⟩ := wpRai kk
  have hv := a'.rel.perm List.perm_middle |>.flat fx
  subst hv
  refine ⟨by show 1 ≤ 1000; decide, fun b nb => ⟨b, C, vF x, rfl, T, hno, by rw [upd_same], fun dx ndx ne => ?_⟩⟩
  have n1 : H1 dx = none := by rw [← ndx, upd_ne ne]
  refine ⟨rfl, dx, [(f, vF x)], by rw [upd_same], by rw [upd_ne ne, upd_same], n1, ?_⟩
  rw [upd_del_exo nb ne]
  refine kk σ _ _ _ .refl ((a'.drop.same (sameUpd n1)).noV) ⟨C, rfl, hm, .inr ⟨dx, rfl, by rw [upd_same]; rfl, a'.rel.notEx n1, fun p m => ?_⟩⟩
  rw [List.mem_singleton.mp m]
  exact fx
/-- an exception class of the text without an __init__ of its own -/
structure XPln (K : PySem.W.Frag) (mg : Str → Option Value) (c : Str) : Prop where
  ex : ∃ (C : Addr) (bmB : List Value) (B newId initId : String), mg c = some (.ref C) ∧ ExcBaseFacts B newId initId bmB ∧ PySem.W.excIn K C bmB newId = true ∧ PySem.W.keepIn K (.ref C) = true ∧ PySem.W.subIn K (.ref C) (.type "BaseException") = some true ∧ PySem.W.typeIn K (.ref C) = some (.type "type")
theorem pmk_own0 {C : Addr} {bmB : List Value} {B newId initId : String} {x : Str} (F : ExcBaseFacts B newId initId bmB) (q : PySem.W.excIn X.K C bmB newId = true) (gC : X.mg x = some (.ref C)) (kC : PySem.W.keepIn X.K (.ref C) = true) (r : Raises X (.ref C)) (hg : Gl X x)
    (hdb : (x == ("__debug__" : Str)) = false := by decide) : L2.PMk X (.Call (.Name x p) [] [] pos) (fun _ H Q => Q (.ref C) none H) := by
  intro pins s σ H Q I h
  refine wpAny_Call_Name_kw (ld_glob I hg gC ?_ hdb)
  refine PySem.W.callWith_K0 I.kIn kC ?_
  obtain ⟨bm, N, nm, qn, bs, hdct, sn, sub, ab, col, dd, k0, k1, k2, k3, k5, mN, hC, hN, hni, T⟩ := exc_obj I.kIn q
  refine wpAny_call_exc_subT F T hC hN hni (fun h' e hm => ?_) (Nat.zero_le _)
  exact L2.mk_of I hm r h (I.hok.gone hm.new)
def raiM0 (c : Str) : M Fl := fun g => .ex ⟨c, []⟩ g
theorem es_raise0 {c x : Str} (cc : Cc X W k) (xm : XPln X.K X.mg c) (hx : x = c := by rfl) (hg : Gl X x := by rfl) (hdb : (x == ("__debug__" : Str)) = false := by decide) :
    EvS X W np (.Raise (some (.Call (.Name x p) [] [] pos)) none pos') (raiM0 c) := by
  subst hx
  obtain ⟨C, bmB, B, newId, initId, hm, F, q, kC, s1, t1⟩ := xm.ex
  refine ⟨_, ps_raise cc.calm cc.tk (pmk_own0 F q hm kC (raises_own s1 t1) hg hdb), fun σ H D g T0 Ex a w => ?_⟩
  exact w σ H _ _ .refl a ⟨C, rfl, hm, .inl ⟨rfl, rfl⟩⟩
end
end Z
namespace Z
open PySem PySem.Spec PyProof.Rows L2
def Res.excR {α : Type} : Res α → (Exn → Gs → Res α) → Res α
  | .ok a g, _ => .ok a g
  | .ex x g, h => h x g
  | .bad, _ => .bad
  | .all f, h => .all fun v => (f v).excR h
def Res.exc {α : Type} (r : Res α) (h : Exn → Gs → Res α) : Res α := match r with
  | .ok a g => .ok a g
  | .ex x g => h x g
  | .bad => .bad
  | .all f => .all fun v => (f v).excR h
theorem Res.excR_eq {α : Type} {h : Exn → Gs → Res α} : ∀ {r : Res α}, r.excR h = r.exc h
  | .ok _ _ => rfl
  | .ex _ _ => rfl
  | .bad => rfl
  | .all _ => rfl
theorem Res.wp_exc {α : Type} {h : Exn → Gs → Res α} {A : α → Gs → Prop} {B : Exn → Gs → Prop} : ∀ {r : Res α}, Wp (r.exc h) A B ↔ Wp r A (fun x g => Wp (h x g) A B)
  | .ok a e => Iff.rfl
  | .ex x e => Iff.rfl
  | .bad => Iff.rfl
  | .all g => wp_all.trans ((forall_congr' fun v => by rw [Res.excR_eq]; exact Res.wp_exc (r := g v)).trans wp_all.symm)
/-- what an except clause does with what it takes -/
def hanM (hs : List Str) (i : Nat) (ms : M Fl) (x : Exn) (g : Gs) : Res Fl :=
  if x.c ∈ hs then ((ms (g.set i (some (.exc x.c x.fs)))).noX).bd fun fl g2 => .ok fl (g2.set i none) else .bad
def tryM (hs : List Str) (i : Nat) (mb ms : M Fl) : M Fl := fun g => (mb g).exc (hanM hs i ms)
/-- the context of an except suite, where the exception is tracked -/
abbrev suite0 (X : Cx) (a : Addr) (pn : List (Addr × Obj)) : Cx := { X with A := X.A.mark (some (.ref a)), calm := false, pn := pn, xe := fun _ _ => False }
theorem suite0_ok {X : Cx} (ok : X.Ok) (a : Addr) (pn : List (Addr × Obj)) : (suite0 X a pn).Ok :=
  ⟨ok.mod, ok.kind, ok.glob, ok.blt, ok.above, ok.inj, ok.has, ok.cab, (fun z => absurd (show false = true from z) Bool.false_ne_true), ok.frames, ok.stk, ok.exf, ok.bs, ok.bsz, ok.noex, ok.exfs, ok.funs, ok.frf⟩
section
variable {X : Cx} {pins : List (Addr × Obj)} {σ : L2.St} {H : Hp} {s : Shared}
theorem toSuite0 (I : Inv X pins σ H s) {a : Addr} : Inv (suite0 X a (X.pn ++ pins)) [] σ H s :=
  ⟨suite0_ok I.ok _ _, I.os, I.bare, I.base, I.loc, I.cell, I.free, I.freeC, fun p hp => I.pin p (by rw [List.append_nil] at hp; exact hp), I.hok, I.len⟩
theorem ofSuite0 {a : Addr} {pn' : List (Addr × Obj)} (I : Inv (suite0 X a (X.pn ++ pins)) pn' σ H s) (ok : X.Ok) : Inv X pins σ H s :=
  ⟨ok, I.os, I.bare, I.base, I.loc, I.cell, I.free, I.freeC, fun p hp => I.pin p (List.mem_append_left _ hp), I.hok, I.len⟩
theorem exH_ok {P : Program} {w : World} {H : Hp} {h : Heap} {a : Addr} {cls : Value} {d : Option Addr} {oe : Obj} {vs : Array Value} (e : h.get? a = some oe) (z : Zc cls d oe) (hd : oe.data = .fields vs) : ObjOk P w H h a (exH a cls d) :=
  ⟨⟨oe, vs, e, z, hd⟩, ⟨oe, e⟩, fun _ _ ⟨o, v, q, r⟩ k => ⟨o, v, k o q, r⟩⟩
/-- the exception is tracked from now on -/
theorem landed_exH {sI s' : Shared} {B : Heap} {a : Addr} {cls : Value} {d : Option Addr} {oe : Obj} {vs : Array Value} (J : Inv X pins σ H sI) (nb : ∀ b o, sI.heap.get? b = some o → b ∉ frs X.stack → B.get? b = some o) (hB : B.get? a = none) (nfr : a ∉ frs X.stack) (st : B.StaysIn s'.heap) (up : sI.heap.UpToSlots s'.heap) (os : s'.os = sI.os) (ag : AllBare s'.gens)
    (na : H a = none) (he : s'.heap.get? a = some oe) (hz : Zc cls d oe) (hd : oe.data = .fields vs) : Inv X pins σ (upd H a (exH a cls d)) s' := by
  have sa : sI.heap.get? a = none := by
    cases q : sI.heap.get? a with
    | none => rfl
    | some o => rw [nb a o q nfr] at hB; cases hB
  obtain ⟨G, g1, g2⟩ := restrict s'.heap fun b => decide (b ≠ a)
  have gk : ∀ b, b ≠ a → G.get? b = s'.heap.get? b := fun b hb => g1 b (decide_eq_true hb)
  have ga : G.get? a = none := g2 a (decide_eq_false fun z => z rfl)
  obtain ⟨h0, gs, dr, tk, os0⟩ := s'
  have J2 : Inv X pins σ H ⟨G, gs, dr, tk, os0⟩ := J.landed (B := B) (s' := ⟨G, gs, dr, tk, os0⟩) nb (fun b o e => by
    have hb : b ≠ a := fun z => by rw [z, hB] at e; cases e
    exact (gk b hb).trans (st b o e)) (fun b o e hf => by
    have hb : b ≠ a := fun z => by rw [z, sa] at e; cases e
    obtain ⟨sl, q⟩ := up b o e hf
    exact ⟨sl, (gk b hb).trans q⟩) os ag
  exact J2.laidN (t' := tk) (fun b u e => by
    have hb : b ≠ a := fun z => by
      have e' : G.get? b = some u := e
      rw [z, ga] at e'; cases e'
    exact (gk b hb).symm.trans e) ga na (exH_ok he hz hd)
end
mutual
theorem owKind {K : PySem.W.Frag} {mg : Str → Option Value} {F : Fz} {fs : List (Str × V)} : ∀ {H : Hp} {v : V} {o : O} {as : List Addr}, Ow K mg F H v o as → ∀ a ∈ as, H a ≠ some (.xd fs)
  | _, _, _, _, .d _ => fun a h => nomatch h
  | _, _, _, _, .gL _ _ => fun a h => nomatch h
  | _, _, _, _, .gT _ _ => fun a h => nomatch h
  | _, _, _, _, .gD _ _ _ => fun a h => nomatch h
  | _, _, _, _, .gK _ _ _ => fun a h => nomatch h
  | _, _, _, _, .gN _ _ _ _ => fun a h => nomatch h
  | _, _, _, _, .pin _ => fun a h => nomatch h
  | _, _, _, _, .fr _ _ => fun a h => nomatch h
  | _, _, _, _, .mem _ => fun a h => nomatch h
  | _, _, _, _, .hole => fun a h => nomatch h
  | _, _, _, _, .jk => fun a h => nomatch h
  | _, _, _, _, .exc _ _ _ => fun a h => nomatch h
  | _, _, _, _, .lst h t => fun a m z => by
    rcases List.mem_cons.mp m with e | m
    · subst e; rw [h] at z; cases z
    · exact owLKind t a m z
  | _, _, _, _, .tup h t => fun a m z => by
    rcases List.mem_cons.mp m with e | m
    · subst e; rw [h] at z; cases z
    · exact owLKind t a m z
  | _, _, _, _, .dK h _ t => fun a m z => by
    rcases List.mem_cons.mp m with e | m
    · subst e; rw [h] at z; cases z
    · exact owLKind t a m z
  | _, _, _, _, .dT h _ t => fun a m z => by
    rcases List.mem_cons.mp m with e | m
    · subst e; rw [h] at z; cases z
    · exact owLKind t a m z
  | _, _, _, _, .ins h _ _ t => fun a m z => by
    rcases List.mem_cons.mp m with e | m
    · subst e; rw [h] at z; cases z
    · exact owLKind t a m z
  | _, _, _, _, .dN h _ _ t => fun a m z => by
    rcases List.mem_cons.mp m with e | m
    · subst e; rw [h] at z; cases z
    · exact owLKind t a m z
theorem owLKind {K : PySem.W.Frag} {mg : Str → Option Value} {F : Fz} {fs : List (Str × V)} : ∀ {H : Hp} {v : List V} {o : List O} {as : List Addr}, OwL K mg F H v o as → ∀ a ∈ as, H a ≠ some (.xd fs)
  | _, _, _, _, .nil => fun a h => nomatch h
  | _, _, _, _, .cons h t => fun a m => by
    rcases List.mem_append.mp m with m | m
    · exact owKind h a m
    · exact owLKind t a m
end
theorem flat_dp {K : PySem.W.Frag} {H : Hp} : ∀ {fs : List (Str × PyData)}, (∀ p ∈ fs, flatF p.2 = true) → DpAll K H (fs.map fun p => vF p.2) (fs.map (·.2))
  | [], _ => .nil
  | p :: r, h => by
    refine .cons ?_ (flat_dp fun q m => h q (List.mem_cons_of_mem _ m))
    have hp := h p List.mem_cons_self
    obtain ⟨n, x⟩ := p
    cases x with
    | none => exact .non
    | bool b => exact .bl b
    | int i => exact .int i
    | str s => exact .str s
    | _ => cases hp
/-- a caught exception as own data -/
theorem Rel.caught {K : PySem.W.Frag} {mg : Str → Option Value} {H : Hp} {Ex : List (Addr × HO)} {rs : Roots} {a C : Addr} {d : Option Addr} {x : Exn} (r : Rel K mg H Ex rs []) (na : H a = none) (hx : ExAt mg Ex (.ref C) d H x) :
    Rel K mg (upd H a (exH a (.ref C) d)) Ex ((.ref a, .exc x.c x.fs) :: rs) [] := by
  obtain ⟨C', eC, hm, hf⟩ := hx
  cases eC
  obtain ⟨Hf, as, s, he, ho, nd, hn, hw⟩ := r.ex
  have ts := owLThere ho
  have ne : ∀ {b : Addr} {u : HO}, H b = some u → b ≠ a := fun {b u} e z => by rw [z, na] at e; cases e
  have s' : Hf.on K (upd H a (exH a (.ref C) d)) := s.trans (sameUpd na)
  have core : ∀ L : List Addr, a ∈ L → (∀ b ∈ L, Hf.m b = none) → (∀ b ∈ Ex.map (·.1) ++ as, b ∉ L) → XdF K (frz Hf (upd H a (exH a (.ref C) d)) L).h d x.fs → Rel K mg (upd H a (exH a (.ref C) d)) Ex ((.ref a, .exc x.c x.fs) :: rs) [] := fun L mL hL nL hX => by
    have there : ∀ b ∈ Ex.map (·.1) ++ as, ∃ u, H b = some u := fun b m => by
      rcases List.mem_append.mp m with m | m
      · obtain ⟨q, mq, rfl⟩ := List.mem_map.mp m
        exact ⟨_, he q mq⟩
      · exact ts b m
    refine ⟨frz Hf _ L, as, frzIn s' L hL, fun e m => (upd_ne (ne (he e m))).trans (he e m), ?_, nd, fun b m => ⟨frzNot (nL b m) (hn b m).1, fun xs e => (hn b m).2 xs ?_⟩, fun p m => nomatch m⟩
    · refine .cons (as := []) (.exc (C := C) (d := d) ?_ hm hX) (owLMono (frzSame s'.same L) ho fun b m => ?_)
      · rw [frzAt mL, upd_same]
      · obtain ⟨u, hu⟩ := ts b m
        exact upd_ne (ne hu)
    · obtain ⟨u, hu⟩ := there b m
      rw [upd_ne (ne hu)] at e
      exact e
  have nma : Hf.m a = none := (s.free na).2
  have naL : ∀ b ∈ Ex.map (·.1) ++ as, b ≠ a := fun b m => by
    rcases List.mem_append.mp m with m | m
    · obtain ⟨q, mq, rfl⟩ := List.mem_map.mp m
      exact ne (he q mq)
    · obtain ⟨u, hu⟩ := ts b m
      exact ne hu
  rcases hf with hf | ⟨dd, rfl, hdd, nEx, fl⟩
  · exact core [a] List.mem_cons_self (fun b m => by rw [List.mem_singleton.mp m]; exact nma) (fun b m z => naL b m (List.mem_singleton.mp z)) (.inl hf)
  · refine core [a, dd] List.mem_cons_self (fun b m => ?_) (fun b m z => ?_) (.inr ⟨dd, _, rfl, (frzAt (by simp)).trans ((upd_ne (ne hdd)).trans hdd), ?_, ?_⟩)
    · rcases List.mem_cons.mp m with e | m
      · rw [e]; exact nma
      · rw [List.mem_singleton.mp m]
        cases q : Hf.m dd with
        | none => rfl
        | some g =>
          obtain ⟨_, kvs, h2, _⟩ := s.mem dd g q
          rw [hdd] at h2; cases h2
    · rcases List.mem_cons.mp z with e | z
      · exact naL b m e
      · have e := List.mem_singleton.mp z
        subst e
        rcases List.mem_append.mp m with m | m
        · exact nEx m
        · exact owLKind ho b m hdd
    · rw [List.map_map]; rfl
    · rw [List.map_map]; exact flat_dp fl
end Z
namespace Z
open PySem PySem.Spec PyProof.Rows L2
section
variable {X : Cx} {W : WX} {x n : Str} {cl : Value} {i np k : Nat} {body suite : List Stmt} {b₀ : Stmt} {npos pos pos' : Pos} {mb ms : M Fl} {hs : List Str}
theorem At.gone {H : Hp} {Ex : List (Addr × HO)} {σ : L2.St} {g : Gs} {T ws : Roots} (a : At X H Ex σ g T ws) (i : Nat) : At X H Ex (σ.set i none) (g.set i none) T ws := by
  refine ⟨⟨by rw [List.length_set, List.length_set]; exact a.fit.len, fun j o h => ?_⟩, ?_⟩
  · by_cases e : i = j
    · subst e
      rw [List.getElem?_set] at h
      simp at h
    · rw [List.getElem?_set_ne e] at h ⊢
      exact a.fit.at_ j o h
  · rw [rootsNone]
    exact a.rel.clr a.fit i
theorem es_tryAs (i : Nat) (cc : Cc X W k) (hnp : np ≤ i) (hc : Names X x cl) (hm : ∀ c ∈ hs, ∀ C, X.mg c = some (.ref C) → PySem.W.exmOne X.K (.ref C) cl = some true)
    (hb : ∀ (W' : WX) (pn : List (Addr × Obj)) (xe : Value → Shared → Prop), Cc (X.tr pn xe) W' k → EvSs (X.tr pn xe) W' np body mb)
    (hsu : ∀ (a : Addr) (pn : List (Addr × Obj)), (suite0 X a pn).N.Nodup → EvSs (suite0 X a pn) (fun _ _ _ _ => False) np (b₀ :: suite) ms)
    (hst : X.stack = X.env :: X.outer := by rfl) (hf : X.env.frame = some X.env.locals := by rfl) (hi : X.N[i]? = some n := by rfl) (hln : X.env.kindOf n = some .local := by rfl) :
    EvS X W np (.Try body [.ExceptHandler (some (.Name x npos)) (some n) (b₀ :: suite) pos'] [] [] pos) (tryM hs i mb ms) := by
  refine ⟨fun D σ H => ∀ (pins : List (Addr × Obj)) (s : Shared), Inv X pins σ H s → wpAny (model X.prog X.w) X.A (exec (.Try body [.ExceptHandler (some (.Name x npos)) (some n) (b₀ :: suite) pos'] [] [] pos) X.env) (SP X pins D) X.xe s,
    ⟨fun pins s σ H D I h => h pins s I⟩, fun σ H D g T Ex a w pins s I => ?_⟩
  have ok := I.ok
  have hN := cc.nd
  have hfr : X.A.frames = some (X.env :: X.outer) := by rw [ok.frames, hst]
  have hloc : Loc X.env.scope n := .inl hln
  let W' : WX := fun cls d σ' H' => ∃ (xx : Exn) (g' : Gs), Pin np σ σ' ∧ At X H' Ex σ' g' T [] ∧ ExAt X.mg Ex cls d H' xx ∧ Wp (hanM hs i ms xx g') (SPost X np σ T Ex D) (XPost X W np σ T Ex)
  have wb : Wp (mb g) (SPost X np σ T Ex D) (fun xx g' => Wp (hanM hs i ms xx g') (SPost X np σ T Ex D) (XPost X W np σ T Ex)) := Res.wp_exc.mp w
  refine wpAny_Try_except ?_
  let xe' : Value → Shared → Prop := fun e s₁ => wpAny (model X.prog X.w) X.A (noteFrame e X.env) (fun _ s₂ => wpAny (model X.prog X.w) X.A (setFlight e none) (fun _ s₃ =>
    wpAny (model X.prog X.w) X.A (handleBy e X.env [.ExceptHandler (some (.Name x npos)) (some n) (b₀ :: suite) pos']) (SP X pins D) X.xe s₃) X.xe s₂) X.xe s₁
  have tk' : Takes (X.tr (X.pn ++ pins) xe') W' := fun u s' xx => by
    obtain ⟨ad, B, sI, pins', σ', H', cls, d, rfl, J', nb, up, sky, na, os, ag, x0, g', pin, aX, xa, wX⟩ := xx
    have J : Inv X pins σ' H' sI := J'.ofTry ok
    have sky' : Sky B (X.env :: X.outer) ad (Zc cls d) X.env.locals s'.heap := by rw [← hst]; exact sky
    show wpAny (model X.prog X.w) X.A (noteFrame (.ref ad) X.env) _ _ _
    refine Sky.land Zc.steady hfr hf sky' fun h3 fl3 up3 => ?_
    have J3 : Inv X pins σ' H' { s' with heap := h3 } := J.landed nb fl3.1 (up.trans up3) os ag
    obtain ⟨oe3, vs3, he3, hz3, hd3⟩ := fl3.there
    have nfr : ad ∉ frs (X.env :: X.outer) := fun hm => by
      obtain ⟨_, o', e', hnf⟩ := fl3.2.2.1.mem hm
      rw [he3] at e'; cases e'
      exact hnf _ hd3
    unfold hanM at wX
    split at wX
    · rename_i hin
      obtain ⟨C, eC, mC, _⟩ := id xa
      subst eC
      have hb1 := hm _ hin C mC
      refine wpAny_handleBy_cons (codeAny_handlers_test ?_) (by intro q; cases q)
      have LT : PySem.W.Looks (model X.prog X.w) h3 (typeOf (.ref ad)) (.ref C) := fun A Q E s k q => wpAny_typeOf_ref (k _ _ he3) (by rw [hz3.1]; exact q)
      have LM := PySem.W.exm_one (M := model X.prog X.w) (J3.kIn) LT hb1
      have S3 : Inv (suite0 X ad (X.pn ++ pins)) [] σ' H' { s' with heap := h3 } := toSuite0 J3
      have test : ∀ {Q : Value → Shared → Prop} {E : Value → Shared → Prop}, Q cl { s' with heap := h3 } → wpAny (model X.prog X.w) (X.A.mark (some (.ref ad))) (eval (.Name x npos) X.env) Q E { s' with heap := h3 } := fun {Q E} q => by
        obtain ⟨hg, hdbg, hm | ⟨hm, hv, hnn⟩⟩ := hc
        · exact ld_glob (X := suite0 X ad (X.pn ++ pins)) S3 hg hm q hdbg
        · exact ld_blt (X := suite0 X ad (X.pn ++ pins)) S3 hg hm hv q hnn hdbg
      refine test (LM.here ?_)
      refine codeAny_handlers_suite_as ?_
      refine HandSPX.lands_againZ fl3 fun h4 fl4 up4 => ?_
      obtain ⟨oe4, vs4, he4, hz4, hd4⟩ := fl4.there
      have J4 : Inv X pins σ' (upd H' ad (exH ad (.ref C) d)) { s' with heap := h4 } := landed_exH J nb fl4.2.1 (by rw [hst]; exact nfr) fl4.1 ((up.trans up3).trans up4) os ag na he4 hz4 hd4
      have S4 : Inv (suite0 X ad (X.pn ++ pins)) [] σ' (upd H' ad (exH ad (.ref C) d)) { s' with heap := h4 } := toSuite0 J4
      refine store_ok (X := suite0 X ad (X.pn ++ pins)) (v := .ref ad) S4 hN hi hloc rfl (fun s5 S5 => ?_) (.inr hln)
      obtain ⟨t, h1, h2⟩ := (hsu ad (X.pn ++ pins) hN).ex
      have aS : At X (upd H' ad (exH ad (.ref C) d)) Ex (σ'.set i (some (.ref ad))) (g'.set i (some (.exc x0.c x0.fs))) T [] := At.storeAny (.ofTop aX.fit (aX.rel.caught na xa))
      have pinS : Pin np σ (σ'.set i (some (.ref ad))) := pin.trans (Pin.set hnp)
      let D' : Ends := { nx := fun σ6 H6 => D.nx (σ6.set i none) H6, rt := D.rt, bk := fun σ6 H6 => D.bk (σ6.set i none) H6, ct := fun σ6 H6 => D.ct (σ6.set i none) H6 }
      have w2 : Wp (ms (g'.set i (some (.exc x0.c x0.fs)))) (SPost (suite0 X ad (X.pn ++ pins)) np (σ'.set i (some (.ref ad))) T Ex D') (XPost (suite0 X ad (X.pn ++ pins)) (fun _ _ _ _ => False) np (σ'.set i (some (.ref ad))) T Ex) := by
        refine (Res.wp_noX.mp (Res.wp_bd.mp wX)).imp (fun fl g6 k => ?_) (fun _ _ z => z.elim)
        have k' : SPost X np σ T Ex D fl (g6.set i none) := k
        have pp : ∀ {σ6 : L2.St}, Pin np (σ'.set i (some (.ref ad))) σ6 → Pin np σ (σ6.set i none) := fun q => (pinS.trans q).trans (Pin.set hnp)
        cases fl with
        | next => exact fun σ6 H6 q a6 => k' (σ6.set i none) H6 (pp q) (At.gone (X := X) ⟨a6.fit, a6.rel⟩ i)
        | brk => exact fun σ6 H6 q a6 => k' (σ6.set i none) H6 (pp q) (At.gone (X := X) ⟨a6.fit, a6.rel⟩ i)
        | cnt => exact fun σ6 H6 q a6 => k' (σ6.set i none) H6 (pp q) (At.gone (X := X) ⟨a6.fit, a6.rel⟩ i)
        | ret o => exact fun v σ6 H6 q a6 => k' v (σ6.set i none) H6 (pp q) (At.gone (X := X) ⟨a6.fit, a6.rel⟩ i)
      refine wpAny_mono (h1.run [] s5 _ _ D' S5 (h2 _ _ D' _ T Ex ⟨aS.fit, aS.rel⟩ w2)) (fun f s6 hsp => ?_) (fun _ _ z => False.elim z)
      have end_ : ∀ {σ6 : L2.St} {H6 : Hp} {Q : Shared → Prop}, Inv (suite0 X ad (X.pn ++ pins)) [] σ6 H6 s6 → (∀ s7, Inv X pins (σ6.set i none) H6 s7 → Q s7) →
          wpAny (model X.prog X.w) X.A (do bindName X.env n .none; unbindBehindTheSuite X.env n pos') (fun _ s7 => Q s7) X.xe s6 := fun {σ6 H6 Q} S6 hq => gone_ok (ofSuite0 S6 ok) hN hi hln hq
      cases f with
      | next =>
        obtain ⟨σ6, H6, S6, q6⟩ := hsp
        exact end_ S6 fun s7 J7 => ⟨_, _, J7, q6⟩
      | brk =>
        obtain ⟨σ6, H6, S6, q6⟩ := hsp
        exact end_ S6 fun s7 J7 => ⟨_, _, J7, q6⟩
      | cont =>
        obtain ⟨σ6, H6, S6, q6⟩ := hsp
        exact end_ S6 fun s7 J7 => ⟨_, _, J7, q6⟩
      | ret u =>
        obtain ⟨v6, σ6, H6, S6, r6, q6⟩ := hsp
        exact end_ S6 fun s7 J7 => ⟨_, _, _, J7, r6, q6⟩
    · exact wX.elim
  have cc' : Cc (X.tr (X.pn ++ pins) xe') W' k := ⟨tk', cc.hr, cc.calm, cc.nd, PassesOwn.looking⟩
  obtain ⟨t, h1, h2⟩ := (hb W' (X.pn ++ pins) xe' cc').ex
  have wt : Wp (mb g) (SPost (X.tr (X.pn ++ pins) xe') np σ T Ex D) (XPost (X.tr (X.pn ++ pins) xe') W' np σ T Ex) := by
    refine wb.imp (fun fl g' k => ?_) (fun xx g' k σ' H' cls d pin a' xa => ⟨xx, g', pin, ⟨a'.fit, a'.rel⟩, xa, k⟩)
    cases fl with
    | next => exact fun σ' H' q a' => k σ' H' q ⟨a'.fit, a'.rel⟩
    | brk => exact fun σ' H' q a' => k σ' H' q ⟨a'.fit, a'.rel⟩
    | cnt => exact fun σ' H' q a' => k σ' H' q ⟨a'.fit, a'.rel⟩
    | ret o => exact fun v σ' H' q a' => k v σ' H' q ⟨a'.fit, a'.rel⟩
  refine wpAny_mono (h1.run [] s σ H D (I.toTry _) (h2 σ H D g T Ex ⟨a.fit, a.rel⟩ wt)) (fun f s1 hsp => ?_) (fun e s1 he => he)
  cases f with
  | next =>
    obtain ⟨σ', H', J', q⟩ := hsp
    exact wpAny_execs_nil ⟨σ', H', J'.ofTry ok, q⟩
  | brk =>
    obtain ⟨σ', H', J', q⟩ := hsp
    exact ⟨σ', H', J'.ofTry ok, q⟩
  | cont =>
    obtain ⟨σ', H', J', q⟩ := hsp
    exact ⟨σ', H', J'.ofTry ok, q⟩
  | ret u =>
    obtain ⟨v, σ', H', J', r, q⟩ := hsp
    exact ⟨v, σ', H', J'.ofTry ok, r, q⟩
end
end Z
namespace PySem.W
open PySem PySem.Spec PySem.Calls PyProof.Rows
section
variable {prog : Program} {w : World} {A : Around} {E : Value → Shared → Prop} {s : Shared} {K : Frag} {x D : Addr} {ox : Obj} {od : Option Obj}
theorem z_findObj_dataN {C : Addr} {name : Str} {a g : Value} (hc : (clsIn K C).isSome = true) (ha : findIn K (.ref C) name = some (some a)) (hg : specialIn K a "__get__" = some (some g)) (ht : takesIn K a = some true) : findObj K C od name = some (.bind g a) := by
  obtain ⟨cd, hc⟩ := Option.isSome_iff_exists.mp hc
  unfold findObj
  rw [hc, Option.bind_some, ha, Option.bind_some]
  simp [hg, ht]
theorem z_kin_classE {Q : Option Value → Shared → Prop} (hga : findIn K (.ref D) "__getattribute__" = some (some (.builtin "BaseException.__getattribute__"))) (hgt : findIn K (.ref D) "__getattr__" = some none) (hsub : subIn K (.ref D) (.type "BaseException") = some true)
    (hdct : hasDictIn K D = true) (ha : findIn K (.ref D) "__class__" = some (some (.builtin "object.__class__")))
    (hn : specialIn K (.builtin "object.__class__") "__get__" = some (some (.builtin "getset_descriptor.__get__"))) (htk : takesIn K (.builtin "object.__class__") = some true) (hm : mroIn K D (.type "object") = some true)
    (X : K.In s.heap) (I : InstAt s.heap x ox D od) (h : Q (some (.ref D)) { s with toks := s.toks + 1 }) : wpAny (model prog w) A (getAttr? (.ref x) "__class__") Q E s := by
  have hf : findObj K D od "__class__" = some (.bind (.builtin "getset_descriptor.__get__") (.builtin "object.__class__")) := z_findObj_dataN (by obtain ⟨cd, hc, _⟩ := any_some hdct; rw [hc]; rfl) ha hn htk
  obtain ⟨hp, g, d, t, os⟩ := s
  have L0 := I.type (M := model prog w)
  have L1 := looks_findIn (M := model prog w) X hga
  have L2 := looks_findIn (M := model prog w) X hgt
  have L3 := looks_find (M := model prog w) X I hf
  have sub : Looks (model prog w) hp (isInstance (.ref x) (.type "BaseException")) true := L0.andThen (looks_subIn X hsub)
  have hx0 : (false && onTheHeap (Value.builtin "BaseException.__getattribute__")) = false := rfl
  have hx2 : (Value.builtin "BaseException.__getattribute__" == Value.builtin "object.__getattribute__") = false := by decide +kernel
  have hx1 : (onTheHeap (Value.ref D) && Value.builtin "BaseException.__getattribute__" == Value.builtin "object.__getattribute__") = false := by rw [hx2]; rfl
  unfold getAttr? getAttrBy? getAttrBy
  refine wpAny_bind (wpAny_mkText (wpAny_bind (wpAny_attempt (wpAny_holding (wpAny_bind (L0.at (wpAny_bind (L1.at ?_))))))))
  show wpAny _ _ (if (onTheHeap (Value.ref D) && Value.builtin "BaseException.__getattribute__" == Value.builtin "object.__getattribute__") = true then _ else _) _ _ _
  rw [hx1, if_neg Bool.false_ne_true]
  unfold getAttrByItsOwn hookBefore
  refine wpAny_bind ?_
  rw [if_pos (show onTheHeap (Value.ref D) = true from rfl)]
  refine L2.at ?_
  refine wpAny_bind (wpAny_attempt (wpAny_holding ?_))
  unfold callGetattribute
  rw [hx0, if_neg Bool.false_ne_true]
  unfold boundAndCalled
  rw [PySem.F.excAttr_ValueError.ga.bind (.ref x)]
  refine wpAny_bind (wpAny_pure ?_)
  show wpAny _ _ (call (.builtin "BaseException.__getattribute__") [.ref x, .str "__class__" t]) _ _ _
  refine wpAny_call (codeAny_call_builtin PySem.F.excAttr_ValueError.ga.plain PySem.F.entry_bexc_ga ?_)
  refine @check_slot (model prog w) _ _ ⟨hp, g, d, t + 1, os⟩ "BaseException.__getattribute__" "BaseException" "__getattribute__" (.ref x) [.str "__class__" t] [] _ (by decide +kernel) (by decide +kernel) sub (PySem.F.args_bexc_ga (.ref x) (.str "__class__" t)) ?_
  unfold Builtin.«object.__getattribute__»
  refine wpAny_bind (wpAny_of_eq (a := ((Value.ref x : Value), [Value.str "__class__" t])) (by first | rfl | (simp only [slotArgs]; rfl)) ?_)
  refine wpAny_bind (wpAny_pure (wpAny_bind (L0.at (wpAny_bind (L3.at ?_)))))
  show wpAny _ _ (holding [Value.builtin "object.__class__"] (call (.builtin "getset_descriptor.__get__") [.builtin "object.__class__", .ref x, .ref D]) >>= ret) _ _ _
  refine wpAny_bind (wpAny_holding (wpAny_call (class_get (s := ⟨hp, g, d, t + 1, os⟩) (ox := ox) (od := od) X I hm ?_)))
  refine wpAny_pure ?_
  show wpAny _ _ (handedOut (.ref D)) _ _ _
  rw [handedOut_of (v := .ref D) rfl]
  first
    | exact wpAny_pure (wpAny_pure h)
    | exact wpAny_pure h
    | exact wpAny_pure (wpAny_bind (wpAny_pure (wpAny_pure h)))
theorem z_kitx_exc (hga : findIn K (.ref D) "__getattribute__" = some (some (.builtin "BaseException.__getattribute__"))) (hgt : findIn K (.ref D) "__getattr__" = some none) (hsub : subIn K (.ref D) (.type "BaseException") = some true) (hdct : hasDictIn K D = true) (ha : findIn K (.ref D) "__class__" = some (some (.builtin "object.__class__")))
    (hn : specialIn K (.builtin "object.__class__") "__get__" = some (some (.builtin "getset_descriptor.__get__"))) (htk : takesIn K (.builtin "object.__class__") = some true) (hm : mroIn K D (.type "object") = some true) :
    KitX K (.ref x) (.ref D) (fun h => ∃ ox od, InstAt h x ox D od) where
  ty := fun _ _ _ I => by obtain ⟨_, _, I⟩ := I; exact I.type
  it := fun _ _ X _ => by
    obtain ⟨cdD, hcD, _⟩ := any_some hdct
    unfold clsIn at hcD
    split at hcD
    · rename_i c' d' cd' sl' ho
      intro A' Q' E' s' k q
      unfold isType loadHead
      exact wpAny_bind (wpAny_loadPart (k _ _ (X _ _ ho)) (wpAny_pure q))
    · cases hcD
  ne := fun h tp dd its n sl X htp => by
    obtain ⟨cdD, hcD, _⟩ := any_some hdct
    refine Bool.eq_false_iff.mpr fun q => ?_
    have e : D = tp := Value.ref.inj (beq_iff_eq.mp q)
    subst e
    unfold clsIn at hcD
    split at hcD
    · rename_i c' d' cd' sl' ho
      have z := (X _ _ ho).symm.trans htp
      cases z
    · cases hcD
  ca := fun X I k => by obtain ⟨_, _, I⟩ := I; exact z_kin_classE hga hgt hsub hdct ha hn htk hm X I k
end
end PySem.W
namespace Z
open PySem PySem.Spec PyProof.Rows L2
/-- a tracked exception stands there -/
theorem exH_inst {P : Program} {w : World} {H : Hp} {h : Heap} {a C : Addr} {d : Option Addr} {K : PySem.W.Frag} {fs : List (Str × PyData)} (hok : HOk P w H h) (e : H a = some (exH a (.ref C) d)) : ∃ oe vs, h.get? a = some oe ∧ Zc (.ref C) d oe ∧ oe.data = .fields vs := by
  have x : ObjOk P w H h a (.ext fun h => ∃ (oe : Obj) (vs : Array Value), h.get? a = some oe ∧ Zc (.ref C) d oe ∧ oe.data = .fields vs) := hok a _ e
  exact x.1
end Z
namespace Z
open PySem PySem.Spec PyProof.Rows L2
/-- the dict of a tracked exception stands, too -/
def XdT (H : Hp) (d : Option Addr) : Prop := d = none ∨ ∃ dd fvs, d = some dd ∧ H dd = some (.xd fvs)
theorem exH_instAt {P : Program} {w : World} {H : Hp} {h : Heap} {a C : Addr} {d : Option Addr} (hok : HOk P w H h) (e : H a = some (exH a (.ref C) d)) (hd : XdT H d) : ∃ ox od, PySem.W.InstAt h a ox C od := by
  obtain ⟨oe, vs, ho, hz, hv⟩ := exH_inst (K := []) (fs := []) hok e
  rcases hd with rfl | ⟨dd, fvs, rfl, hx⟩
  · exact ⟨oe, none, ho, hz.1, by unfold PySem.W.notCls; rw [hv], by rw [hz.2]; trivial⟩
  · have hx' : ObjOk P w H h dd (.xd fvs) := hok dd _ hx
    obtain ⟨mA, hns, hr⟩ := hx'
    obtain ⟨od, hod, hl⟩ := lookIn_ns hns
    exact ⟨oe, some od, ho, hz.1, by unfold PySem.W.notCls; rw [hv], by rw [hz.2]; exact hod⟩
/-- isinstance of a tracked exception, one class; a tuple of classes -/
def rIsX (K : PySem.W.Frag) : List V → Hp → VK → Prop := fun xs H Q => ∃ (a C : Addr) (d : Option Addr) (c : V) (u : Value) (b : Bool), xs = [.ref a, c] ∧ ClsV c u ∧ H a = some (exH a (.ref C) d) ∧ XdT H d ∧ ExcC K C ∧ PySem.W.kitOne K (.ref C) u = some b ∧ Q (.bl b) H
section
variable {X : Cx}
theorem call_isX : CallR X (.builtin "isinstance") (rIsX X.K) := by
  intro pins s σ H xs us Q I r h
  obtain ⟨a, C, d, c, u, b, rfl, k, e, hd, T, hk, q⟩ := h
  cases r with
  | cons r1 rr =>
    cases rr with
    | cons r2 rr =>
      cases rr
      cases r1
      have e2 := k.eq r2
      subst e2
      exact PySem.W.kia_one (PySem.W.z_kitx_exc T.hg T.hk T.hs T.hd T.ha T.hn T.ht T.hm) I.kIn (exH_instAt I.hok e hd) hk (fun z => nomatch z) fun tk => ⟨.bl b, H, I.tok tk, rfl, q⟩
end
/-- of which class one is, by the classes that may come -/
def isxM (ans : List (Str × Bool)) (m : M O) : M O := M.bd m fun o g => match o with
  | .exc c _ => match ans.lookup c with
    | some b => .ok (.d (.bool b)) g
    | none => .bad
  | _ => .bad
theorem wpIsx {ans : List (Str × Bool)} {o : O} {g : Gs} {A : O → Gs → Prop} {B : Exn → Gs → Prop} (h : Wp ((fun o g => match o with
  | O.exc c _ => match ans.lookup c with
    | some b => .ok (.d (.bool b)) g
    | none => .bad
  | _ => .bad : O → M O) o g) A B) : ∃ c fs b, o = .exc c fs ∧ ans.lookup c = some b ∧ A (.d (.bool b)) g := by
  cases o with
  | exc c fs =>
    dsimp only at h
    split at h
    · rename_i b q; exact ⟨c, fs, b, rfl, q, h⟩
    · exact h.elim
  | _ => exact h.elim
theorem lookup_mem {β : Type} {c : Str} {b : β} : ∀ {l : List (Str × β)}, l.lookup c = some b → (c, b) ∈ l
  | [], h => by cases h
  | (x, y) :: r, h => by
    rw [List.lookup_cons] at h
    split at h
    · rename_i q
      cases h
      have e : c = x := by simpa using q
      rw [e]; exact List.mem_cons_self
    · exact List.mem_cons_of_mem _ (lookup_mem h)
/-- what is seen of an exception -/
theorem Rel.exc {K : PySem.W.Frag} {mg : Str → Option Value} {H : Hp} {Ex : List (Addr × HO)} {rs ws : Roots} {v : V} {c : Str} {fs : List (Str × PyData)} (r : Rel K mg H Ex rs ((v, .exc c fs) :: ws)) :
    ∃ a C d, v = .ref a ∧ H a = some (exH a (.ref C) d) ∧ mg c = some (.ref C) ∧ XdT H d ∧ ∀ n x, fs.lookup n = some x → ∃ dd fvs v, d = some dd ∧ H dd = some (.xd fvs) ∧ fvs.lookup n = some v ∧ Rel K mg H Ex ((v, .d x) :: rs) ws := by
  obtain ⟨Hf, as, s, he, ho, nd, hn, hw⟩ := r.ex
  obtain ⟨bs, h⟩ := hw _ List.mem_cons_self
  cases h with
  | @exc H' a C c d fs h hm hx =>
    refine ⟨a, C, d, rfl, s.same _ _ h, hm, ?_, fun n x hl => ?_⟩
    · rcases hx with ⟨_, e⟩ | ⟨dd, fvs, e, h2, _, _⟩
      · exact .inl e
      · exact .inr ⟨dd, fvs, e, s.same _ _ h2⟩
    · rcases hx with ⟨e, _⟩ | ⟨dd, fvs, e, h2, h3, h4⟩
      · rw [e] at hl; cases hl
      · have key : ∀ {fvs : List (Str × V)} {fs : List (Str × PyData)}, fvs.map (·.1) = fs.map (·.1) → DpAll K Hf.h (fvs.map (·.2)) (fs.map (·.2)) → fs.lookup n = some x → ∃ v, fvs.lookup n = some v ∧ Dp K Hf.h v x := by
          intro fvs
          induction fvs with
          | nil => intro fs e1 e2 e3; cases fs with | nil => cases e3 | cons _ _ => cases e1
          | cons p l ih =>
            intro fs e1 e2 e3
            cases fs with
            | nil => cases e1
            | cons q r =>
              simp only [List.map_cons, List.cons.injEq] at e1
              obtain ⟨e1, e1'⟩ := e1
              cases e2 with
              | cons d1 d2 =>
                obtain ⟨p1, p2⟩ := p
                obtain ⟨q1, q2⟩ := q
                simp only at e1
                subst e1
                rw [List.lookup_cons] at e3 ⊢
                split at e3
                · cases e3; exact ⟨_, rfl, d1⟩
                · exact ih e1' d2 e3
        obtain ⟨v, l1, l2⟩ := key h3 h4 hl
        exact ⟨dd, fvs, v, e, s.same _ _ h2, l1, Hf, as, s, he, .cons (as := []) (.d l2) ho, nd, hn, fun p m => hw p (List.mem_cons_of_mem _ m)⟩
section
variable {X : Cx} {W : WX} {pu : Bool} {a : Expr} {m : M O} {pos p p2 p3 : Pos} {ans : List (Str × Bool)}
theorem ev_isx {n : Str} {cv : V} {u : Value} (hP : EvP X W pu a m) (hm : X.mg "isinstance" = none) (hv : bootBuiltins "isinstance" = some (.builtin "isinstance")) (pt : PE X (.Name n p2) (tC cv)) (k : ClsV cv u)
    (hk : ∀ c b, (c, b) ∈ ans → ∀ C, X.mg c = some (.ref C) → ExcC X.K C ∧ PySem.W.kitOne X.K (.ref C) u = some b) (hg : Gl X "isinstance" := by rfl)
    (he : starEach [a, .Name n p2] X.env = (false, eval a X.env) :: starEach [.Name n p2] X.env := by rfl) (he2 : starEach [.Name n p2] X.env = (false, eval (.Name n p2) X.env) :: starEach [] X.env := by rfl) (hpl : (backTo pos (starEach [.Name n p2] X.env)).any (·.1) = false := by rfl) :
    Ev X W pu (.Call (.Name "isinstance" p) [a, .Name n p2] [] pos) (isxM ans m) := by
  obtain ⟨t, h1, h2⟩ := hP.ex
  refine ⟨_, pe_callB call_isX hg hm hv (pa_cons h1 (pa_cons pt pa_nil he2) he) (by decide) (by decide) he hpl, fun σ H Q g T Ex ws a w => h2 σ H _ g T Ex ws a (w.bd.imp (fun o g' kk v H' s a' => ?_) fun _ _ kk => kk)⟩
  obtain ⟨c, fs, b, rfl, hl, kk⟩ := wpIsx kk
  obtain ⟨ad, C, d, rfl, e1, e2, e3, _⟩ := a'.rel.exc
  obtain ⟨T, hK⟩ := hk c b (lookup_mem hl) C e2
  refine ⟨ad, C, d, cv, u, b, rfl, k, e1, e3, T, hK, ?_⟩
  exact kk _ H' s ((a'.data fun _ => .bl _).views fun p m => List.mem_cons_of_mem _ m)
def tXfL (K : PySem.W.Frag) (f : Str) (te : TE) : TE := fun σ H Q => te σ H fun x H1 => ∃ (a C dd : Addr) (fvs : List (Str × V)) (v : V), x = .ref a ∧ H1 a = some (exH a (.ref C) (some dd)) ∧ H1 dd = some (.xd fvs) ∧ XfC K C ∧ PySem.W.findIn K (.ref C) f = some none ∧ fvs.lookup f = some v ∧ Q v H1
theorem pe_xfL {e : Expr} {te : TE} {n : Str} (he : PE X e te) (hb : attributeBase e n X.env (eval e X.env) = eval e X.env := by rfl) : PE X (.Attribute e n pos) (tXfL X.K n te) := by
  refine ⟨fun pins s σ H Q I h => ?_⟩
  refine attr_of hb (thn (he.run pins s σ H _ I h) fun u s1 hh => ?_)
  obtain ⟨x, H1, I1, rx, a, C, dd, fs, v, ex, ea, ed, T, hno, l, q⟩ := hh
  subst ex
  obtain rfl : u = Value.ref a := rx
  obtain ⟨oe, vs, ha, hz, hd⟩ := exH_inst (K := []) (fs := []) I1.hok ea
  have hx : ObjOk X.prog X.w H1 s1.heap dd (.xd fs) := I1.hok dd _ ed
  obtain ⟨mA, hns, hr⟩ := hx
  obtain ⟨od, ho, hl⟩ := lookIn_ns hns
  obtain ⟨u, hu, ru⟩ := RelO.some_of (v := v) (o := mA n) (by rw [← l]; exact hr n)
  have J : PySem.W.InstAt s1.heap a oe C (some od) := ⟨ha, hz.1, by unfold PySem.W.notCls; rw [hd], by rw [hz.2]; exact ho⟩
  exact HandSPX.exc_get I1.kIn J T.ga T.gg T.exC (PySem.W.findObj_own T.hdC hno rfl (by rw [hl, hu])) (handed_of ru) ⟨v, H1, I1.tok _, ru, q⟩
def xfM (cs : List Str) (f : Str) (m : M O) : M O := M.bd m fun o g => match o with
  | .exc c fs => if c ∈ cs then match fs.lookup f with
    | some x => .ok (.d x) g
    | none => .bad else .bad
  | _ => .bad
theorem wpXf {cs : List Str} {f : Str} {o : O} {g : Gs} {A : O → Gs → Prop} {B : Exn → Gs → Prop} (h : Wp ((fun o g => match o with
  | O.exc c fs => if c ∈ cs then match fs.lookup f with
    | some x => .ok (.d x) g
    | none => .bad else .bad
  | _ => .bad : O → M O) o g) A B) : ∃ c fs x, o = .exc c fs ∧ c ∈ cs ∧ fs.lookup f = some x ∧ A (.d x) g := by
  cases o with
  | exc c fs =>
    dsimp only at h
    split at h
    · rename_i hc
      split at h
      · rename_i x q; exact ⟨c, fs, x, rfl, hc, q, h⟩
      · exact h.elim
    · exact h.elim
  | _ => exact h.elim
theorem ev_xf {n : Str} {cs : List Str} (hP : EvP X W pu a m) (hk : ∀ c ∈ cs, ∀ C, X.mg c = some (.ref C) → XfC X.K C ∧ PySem.W.findIn X.K (.ref C) n = some none)
    (hb : attributeBase a n X.env (eval a X.env) = eval a X.env := by rfl) : Ev X W pu (.Attribute a n pos) (xfM cs n m) := by
  obtain ⟨t, h1, h2⟩ := hP.ex
  refine ⟨_, pe_xfL h1 hb, fun σ H Q g T Ex ws a w => h2 σ H _ g T Ex ws a (w.bd.imp (fun o g' kk v H' s a' => ?_) fun _ _ kk => kk)⟩
  obtain ⟨c, fs, x, rfl, hc, hl, kk⟩ := wpXf kk
  obtain ⟨ad, C, d, rfl, e1, e2, _, e4⟩ := a'.rel.exc
  obtain ⟨dd, fvs, v, rfl, f1, f2, rr⟩ := e4 n x hl
  obtain ⟨T, hno⟩ := hk c hc C e2
  refine ⟨ad, C, dd, fvs, v, rfl, e1, f1, T, hno, f2, ?_⟩
  exact kk v H' s (.ofTop a'.fit rr)
end
end Z
namespace Z
open PySem PySem.Spec PyProof.Rows L2
section
variable {K : PySem.W.Frag} {mg : Str → Option Value} {h : Heap}
/-- the class that is over all -/
structure XBase (K : PySem.W.Frag) (mg : Str → Option Value) (x : Str) : Prop where
  ex : ∃ (CB : Addr) (mc : Value), mg x = some (.ref CB) ∧ ClX.CRead K CB mc ∧ PySem.W.findCls K (.ref CB) mc "__init__" = some (.val (.builtin "ValueError.__init__"))
theorem xbAt {x : Str} {C : Addr} {mc : Value} (X : K.In h) (G : h.Ns mainGlobals mg) (a : PySem.W.nsIn K mainGlobals x = some (some (.ref C))) (r : PySem.W.readsIn K C mc = true) (g : PySem.W.specialIn K (.ref C) "__getattribute__" = some (some (.builtin "type.__getattribute__")))
    (f : PySem.W.findCls K (.ref C) mc "__init__" = some (.val (.builtin "ValueError.__init__"))) : XBase K mg x := ⟨C, mc, PySem.W.mg_of X G a, ⟨r, g⟩, f⟩
/-- a class made with one thing -/
structure XMakAt (K : PySem.W.Frag) (mg : Str → Option Value) (c q fn : Str) (st : Stmt) : Prop where
  ex : ∃ (C f : Addr) (fd : FuncData), mg c = some (.ref C) ∧ OexC K C ∧ PySem.W.findIn K (.ref C) "__init__" = some (some (.ref f)) ∧ PySem.W.typeIn K (.ref f) = some (.type "function") ∧ PySem.W.findIn K (.ref C) fn = some none ∧ Fun K "__init__" q st f fd
theorem xmakAt {c q fn : Str} {C f : Addr} {st : Stmt} {oc : Value} {od an : Option Addr} {osl : Array (Option Value)} {kV doc pm cdv ct : Value} {nm qn : Str} {N : Addr} {bs bm : List Value} {sn : List Str} {sub : List Value} {ab : Bool} {col : Option Bool} {dd : Option Addr} {k0 k1 k2 k3 k5 : Option Value}
    (X : K.In h) (G : h.Ns mainGlobals mg) (a : PySem.W.nsIn K mainGlobals c = some (some (.ref C))) (lc : K.lookup C = some (excClassObj nm qn C N bs bm true sn sub ab col dd k0 k1 k2 k3 k5 "ValueError.__new__")) (rv : PySem.HandSPX.refsVE bm = true)
    (sa : PySem.W.findIn K (.ref C) "__setattr__" = some (some (.builtin "object.__setattr__"))) (sb : PySem.W.subIn K (.ref C) (.type "BaseException") = some true) (ty : PySem.W.typeIn K (.ref C) = some (.type "type")) (kc : PySem.W.keepIn K (.ref C) = true)
    (i : PySem.W.findIn K (.ref C) "__init__" = some (some (.ref f))) (tf : PySem.W.typeIn K (.ref f) = some (.type "function")) (n : PySem.W.findIn K (.ref C) fn = some none)
    (l : K.lookup f = some ⟨oc, od, .func (PySem.W.fnOf "__init__" q (defArgs st) (defBody st) (defScope st) .none kV doc pm an cdv ct), osl⟩) (cd : PySem.W.codeIn K cdv q = true) (k : PySem.W.keepIn K (.ref f) = true) : XMakAt K mg c q fn st :=
  ⟨C, f, _, PySem.W.mg_of X G a, ⟨⟨_, _, _, _, _, _, _, _, _, _, _, _, _, _, _, lc, rv⟩, sa, sb, ty, kc⟩, i, tf, n, fun_mk l cd k⟩
theorem xplnAt {c : Str} {C : Addr} {bmB : List Value} {B newId initId : String} (F : ExcBaseFacts B newId initId bmB) (X : K.In h) (G : h.Ns mainGlobals mg) (a : PySem.W.nsIn K mainGlobals c = some (some (.ref C))) (q : PySem.W.excIn K C bmB newId = true) (kc : PySem.W.keepIn K (.ref C) = true)
    (sb : PySem.W.subIn K (.ref C) (.type "BaseException") = some true) (ty : PySem.W.typeIn K (.ref C) = some (.type "type")) : XPln K mg c := ⟨C, bmB, B, newId, initId, PySem.W.mg_of X G a, F, q, kc, sb, ty⟩
/-- the handler of a class takes these -/
structure Hnd (K : PySem.W.Frag) (mg : Str → Option Value) (x : Str) (hs : List Str) : Prop where
  ex : ∃ D, mg x = some (.ref D) ∧ ∀ c ∈ hs, ∀ C, mg c = some (.ref C) → PySem.W.exmOne K (.ref C) (.ref D) = some true
theorem hndNil {x : Str} {D : Addr} (X : K.In h) (G : h.Ns mainGlobals mg) (a : PySem.W.nsIn K mainGlobals x = some (some (.ref D))) : mg x = some (.ref D) ∧ ∀ c ∈ ([] : List Str), ∀ C, mg c = some (.ref C) → PySem.W.exmOne K (.ref C) (.ref D) = some true := ⟨PySem.W.mg_of X G a, fun _ h => nomatch h⟩
theorem hndCons {x c : Str} {hs : List Str} {C D : Addr} (X : K.In h) (G : h.Ns mainGlobals mg) (a : PySem.W.nsIn K mainGlobals c = some (some (.ref C))) (e : PySem.W.exmOne K (.ref C) (.ref D) = some true) (r : mg x = some (.ref D) ∧ ∀ c ∈ hs, ∀ C, mg c = some (.ref C) → PySem.W.exmOne K (.ref C) (.ref D) = some true) :
    mg x = some (.ref D) ∧ ∀ c' ∈ c :: hs, ∀ C, mg c' = some (.ref C) → PySem.W.exmOne K (.ref C) (.ref D) = some true := ⟨r.1, fun c' m C' hC => by
  rcases List.mem_cons.mp m with q | m
  · subst q
    have := (PySem.W.mg_of X G a).symm.trans hC
    cases this
    exact e
  · exact r.2 c' m C' hC⟩
theorem hndOf {x : Str} {hs : List Str} {D : Addr} (r : mg x = some (.ref D) ∧ ∀ c ∈ hs, ∀ C, mg c = some (.ref C) → PySem.W.exmOne K (.ref C) (.ref D) = some true) : Hnd K mg x hs := ⟨D, r⟩
/-- what isinstance says of instances of these classes; us: the class or the classes asked for -/
def IsAll (K : PySem.W.Frag) (mg : Str → Option Value) (us : List Value) (ans : List (Str × Bool)) : Prop := ∀ c b, (c, b) ∈ ans → ∀ C, mg c = some (.ref C) → ExcC K C ∧ PySem.W.kitAny K (.ref C) us = some b
theorem isNil {us : List Value} : IsAll K mg us [] := fun _ _ h => nomatch h
theorem isCons {c : Str} {b : Bool} {ans : List (Str × Bool)} {us : List Value} {C : Addr} (X : K.In h) (G : h.Ns mainGlobals mg) (a : PySem.W.nsIn K mainGlobals c = some (some (.ref C))) (T : ExcC K C) (e : PySem.W.kitAny K (.ref C) us = some b) (r : IsAll K mg us ans) : IsAll K mg us ((c, b) :: ans) := fun c' b' m C' hC => by
  rcases List.mem_cons.mp m with q | m
  · cases q
    have := (PySem.W.mg_of X G a).symm.trans hC
    cases this
    exact ⟨T, e⟩
  · exact r c' b' m C' hC
theorem kitOne_of {t u : Value} {b : Bool} (h : PySem.W.kitAny K t [u] = some b) : PySem.W.kitOne K t u = some b := by
  unfold PySem.W.kitAny at h
  split at h
  · rename_i q; cases h; exact q
  · rename_i q; rw [q]; cases h; rfl
  · cases h
/-- classes by their names -/
inductive ClsNs (mg : Str → Option Value) : List Str → List Value → Prop
  | nil : ClsNs mg [] []
  | own {n : Str} {D : Addr} {ns : List Str} {us : List Value} : mg n = some (.ref D) → ClsNs mg ns us → ClsNs mg (n :: ns) (.ref D :: us)
  | ty {n : Str} {nt : String} {ns : List Str} {us : List Value} : mg n = none → bootBuiltins n = some (.type nt) → ClsNs mg ns us → ClsNs mg (n :: ns) (.type nt :: us)
structure Isx (K : PySem.W.Frag) (mg : Str → Option Value) (ns : List Str) (ans : List (Str × Bool)) : Prop where
  ex : ∃ us, ClsNs mg ns us ∧ IsAll K mg us ans
structure Xfs (K : PySem.W.Frag) (mg : Str → Option Value) (f : Str) (cs : List Str) : Prop where
  ex : ∀ c ∈ cs, ∀ C, mg c = some (.ref C) → XfC K C ∧ PySem.W.findIn K (.ref C) f = some none
theorem xfsNil {f : Str} : Xfs K mg f [] := ⟨fun _ h => nomatch h⟩
theorem xfsCons {f c : Str} {cs : List Str} {C : Addr} (X : K.In h) (G : h.Ns mainGlobals mg) (a : PySem.W.nsIn K mainGlobals c = some (some (.ref C))) (T : XfC K C) (n : PySem.W.findIn K (.ref C) f = some none) (r : Xfs K mg f cs) : Xfs K mg f (c :: cs) := ⟨fun c' m C' hC => by
  rcases List.mem_cons.mp m with q | m
  · subst q
    have := (PySem.W.mg_of X G a).symm.trans hC
    cases this
    exact ⟨T, n⟩
  · exact r.ex c' m C' hC⟩
end
section
variable {X : Cx} {W : WX} {pu : Bool} {a : Expr} {m : M O} {pos p p2 : Pos} {ans : List (Str × Bool)} {k np : Nat} {mb ms : M Fl}
theorem ev_isx1 {n : Str} (hP : EvP X W pu a m) (hm : X.mg "isinstance" = none) (I : Isx X.K X.mg [n] ans) (hgn : Gl X n := by rfl) (hnn : n ≠ "__name__" := by decide) (hnd : (n == ("__debug__" : Str)) = false := by decide) (hg : Gl X "isinstance" := by rfl)
    (he : starEach [a, .Name n p2] X.env = (false, eval a X.env) :: starEach [.Name n p2] X.env := by rfl) (he2 : starEach [.Name n p2] X.env = (false, eval (.Name n p2) X.env) :: starEach [] X.env := by rfl) (hpl : (backTo pos (starEach [.Name n p2] X.env)).any (·.1) = false := by rfl) :
    Ev X W pu (.Call (.Name "isinstance" p) [a, .Name n p2] [] pos) (isxM ans m) := by
  obtain ⟨us, h1, h2⟩ := I.ex
  cases h1 with
  | own hD r =>
    cases r
    exact ev_isx hP hm boot_isi_ (pe_glob hgn hD (v := .ref _) rfl hnd) (.own _) (fun c b m C hC => ⟨(h2 c b m C hC).1, kitOne_of (h2 c b m C hC).2⟩) hg he he2 hpl
  | ty h0 hb r =>
    cases r
    exact ev_isx hP hm boot_isi_ (pe_bltn (v := .ty _) hgn h0 hb rfl hnn hnd) (.ty _) (fun c b m C hC => ⟨(h2 c b m C hC).1, kitOne_of (h2 c b m C hC).2⟩) hg he he2 hpl
theorem ev_xfs {n : Str} {cs : List Str} (hP : EvP X W pu a m) (hk : Xfs X.K X.mg n cs) (hb : attributeBase a n X.env (eval a X.env) = eval a X.env := by rfl) : Ev X W pu (.Attribute a n pos) (xfM cs n m) := ev_xf hP hk.ex hb
/-- what a suite stands on -/
structure Csu (X : Cx) : Prop where
  nd : X.N.Nodup
theorem es_tryH {x n : Str} {body suite : List Stmt} {b₀ : Stmt} {npos pos' : Pos} {hs : List Str} (i : Nat) (cc : Cc X W k) (hnp : np ≤ i) (H : Hnd X.K X.mg x hs)
    (hb : ∀ (W' : WX) (pn : List (Addr × Obj)) (xe : Value → Shared → Prop), Cc (X.tr pn xe) W' k → EvSs (X.tr pn xe) W' np body mb)
    (hsu : ∀ (a : Addr) (pn : List (Addr × Obj)), Csu (suite0 X a pn) → EvSs (suite0 X a pn) (fun _ _ _ _ => False) np (b₀ :: suite) ms)
    (hg : Gl X x := by rfl) (hdb : (x == ("__debug__" : Str)) = false := by decide)
    (hst : X.stack = X.env :: X.outer := by rfl) (hf : X.env.frame = some X.env.locals := by rfl) (hi : X.N[i]? = some n := by rfl) (hln : X.env.kindOf n = some .local := by rfl) :
    EvS X W np (.Try body [.ExceptHandler (some (.Name x npos)) (some n) (b₀ :: suite) pos'] [] [] pos) (tryM hs i mb ms) := by
  obtain ⟨D, h1, h2⟩ := H.ex
  exact es_tryAs i cc hnp ⟨hg, hdb, .inl h1⟩ h2 hb (fun a pn nd => hsu a pn ⟨nd⟩) hst hf hi hln
end
end Z
namespace PySem
open PySem.Spec
end PySem
namespace L2
open PySem PySem.Spec PyProof.Rows
end L2
namespace Z
open PySem PySem.Spec PyProof.Rows L2
end Z
namespace Z
open PySem PySem.Spec PyProof.Rows L2
section
variable {A : O → Gs → Prop} {AF : Fl → Gs → Prop} {B : Exn → Gs → Prop} {g g' g1 : Gs} {m : M O} {mb ms : M Fl} {i : Nat} {c f : Str} {x : PyData} {s : Str} {n : Int} {fs : List (Str × PyData)} {hs cs : List Str} {ans : List (Str × Bool)} {AO : O → Prop}
def RaiK (c f : Str) (B : Exn → Gs → Prop) : O → Gs → Prop
  | .d x, g => flatF x = true ∧ B ⟨c, [(f, x)]⟩ g
  | _, _ => False
instance s_rai : Stp (Wp (raiM c f m g) AF B) (Wp (m g) (RaiK c f B) B) := ⟨fun h => by
  unfold raiM
  refine Res.wp_bd.mpr (h.imp (fun o g1 k => ?_) fun _ _ z => z)
  cases o with
  | d x =>
    dsimp only
    rw [if_pos k.1]
    exact k.2
  | _ => exact k.elim⟩
instance s_raiS : Stp (RaiK c f B (.d (.str s)) g) (B ⟨c, [(f, .str s)]⟩ g) := ⟨fun h => ⟨rfl, h⟩⟩
instance s_raiI : Stp (RaiK c f B (.d (.int n)) g) (B ⟨c, [(f, .int n)]⟩ g) := ⟨fun h => ⟨rfl, h⟩⟩
instance s_rai0 : Stp (Wp (raiM0 c g) AF B) (B ⟨c, []⟩ g) := ⟨fun h => h⟩
def HanK (hs : List Str) (i : Nat) (ms : M Fl) (AF : Fl → Gs → Prop) (B : Exn → Gs → Prop) : Exn → Gs → Prop := fun x g => Wp (hanM hs i ms x g) AF B
def TeK (i : Nat) (AF : Fl → Gs → Prop) : Fl → Gs → Prop := fun fl g => AF fl (g.set i none)
instance s_tryx : Stp (Wp (tryM hs i mb ms g) AF B) (Wp (mb g) AF (HanK hs i ms AF B)) := ⟨fun h => Res.wp_exc.mpr h⟩
instance s_han [p : Put g i (some (.exc c fs)) g'] : Stp (HanK hs i ms AF B ⟨c, fs⟩ g) (Sd (c ∈ hs) (Wp (ms g') (TeK i AF) NoB)) := ⟨fun h => by
  unfold HanK hanM
  rw [if_pos h.l, p.put]
  exact Res.wp_bd.mpr (Res.wp_noX.mpr h.r)⟩
instance s_te {fl : Fl} [p : Put g i none g'] : Stp (TeK i AF fl g) (AF fl g') := ⟨fun h => by
  unfold TeK
  rw [p.put]; exact h⟩
class AkC (ans : List (Str × Bool)) (c : Str) (b : outParam Bool) : Prop where
  eq : ans.lookup c = some b
instance lkH {b : Bool} {r : List (Str × Bool)} : AkC ((c, b) :: r) c b := ⟨by rw [List.lookup_cons]; simp⟩
def IsxK (ans : List (Str × Bool)) (A : O → Gs → Prop) : O → Gs → Prop
  | .exc c _, g => ∃ b, ans.lookup c = some b ∧ A (.d (.bool b)) g
  | _, _ => False
instance s_isx : Stp (Wp (isxM ans m g) A B) (Wp (m g) (IsxK ans A) B) := ⟨fun h => by
  unfold isxM
  refine Res.wp_bd.mpr (h.imp (fun o g1 k => ?_) fun _ _ z => z)
  cases o with
  | exc c fs =>
    obtain ⟨b, e, k⟩ := k
    dsimp only
    rw [e]
    exact k
  | _ => exact k.elim⟩
instance s_isxK {b : Bool} [l : AkC ans c b] : Stp (IsxK ans A (.exc c fs) g) (A (.d (.bool b)) g) := ⟨fun h => ⟨b, l.eq, h⟩⟩
def XfK (cs : List Str) (f : Str) (A : O → Gs → Prop) : O → Gs → Prop
  | .exc c fs, g => c ∈ cs ∧ ∃ x, fs.lookup f = some x ∧ A (.d x) g
  | _, _ => False
instance s_xf : Stp (Wp (xfM cs f m g) A B) (Wp (m g) (XfK cs f A) B) := ⟨fun h => by
  unfold xfM
  refine Res.wp_bd.mpr (h.imp (fun o g1 k => ?_) fun _ _ z => z)
  cases o with
  | exc c fs =>
    obtain ⟨hc, x, e, k⟩ := k
    dsimp only
    rw [if_pos hc, e]
    exact k
  | _ => exact k.elim⟩
instance s_xfK {r : List (Str × PyData)} : Stp (XfK cs f A (.exc c ((f, x) :: r)) g) (Sd (c ∈ cs) (A (.d x) g)) := ⟨fun h => ⟨h.l, x, by rw [List.lookup_cons]; simp, h.r⟩⟩
instance gr_exc : GrC (.exc c fs) := ⟨rfl⟩
end
end Z
namespace Z
open PySem PySem.Spec PyProof.Rows L2
end Z
namespace ZpL
open PySem PyProof.Rows RZ
section
variable {prog : Program} {w : World} {A : Around} {E : Value → Shared → Prop} {s : Shared}
theorem item_held {z TI TO T i1 i2 l1 l2 : Addr} {f : Bool} {oT : Obj} {k1 k2 : Nat} {xs ys : Array Value} {x y : Value} {Q : Value → Shared → Prop} (D : ZipApart z TI TO i1 i2 l1 l2)
    (hz : IsZipHeld s.heap z TI TO T f) (hT : s.heap.get? T = some oT) (hTI : IsPair s.heap TI (.ref i1) (.ref i2))
    (h1 : s.heap.IsTupleIter i1 l1 k1) (h2 : s.heap.IsTupleIter i2 l2 k2) (hl1 : s.heap.IsTuple l1 xs) (hl2 : s.heap.IsTuple l2 ys) (hx : xs[k1]? = some x) (hy : ys[k2]? = some y)
    (hQ : ∀ h', IsZipHeld h' z TI TO T true → h'.IsTupleIter i1 l1 (k1 + 1) → h'.IsTupleIter i2 l2 (k2 + 1) → IsPair h' s.heap.objs.size x y → h'.objs.size = s.heap.objs.size + 1 →
      (∀ c o, c ≠ z → c ≠ i1 → c ≠ i2 → s.heap.get? c = some o → h'.get? c = some o) → Q (.ref s.heap.objs.size) { s with heap := h' }) :
    wpAny (model prog w) A (Builtin.«zip.__next__» ⟨[.ref z], []⟩) (fun fin s' => ∃ v, fin = .done (.ret v) ∧ Q v s') E s := by
  show wpAny _ _ (field (.ref z) 2 >>= _) _ _ _
  refine wpAny_bind (wpAny_field hz rfl (x := .bool false) rfl ?_)
  show wpAny _ _ (field (.ref z) 3 >>= _) _ _ _
  refine wpAny_bind (wpAny_field hz rfl (x := .ref TI) rfl ?_)
  refine wpAny_bind (wpAny_seqItems hTI rfl ?_)
  show wpAny _ _ (Builtin.SmallTypes.ownedTupleIsFree (.ref z) >>= _) _ _ _
  refine wpAny_bind (wpAny_tupleHeld_zip hz hT fun h₁ hz₁ hs₁ => ?_)
  simp only [Bool.false_eq_true, if_false]
  refine wpAny_bind ?_
  rw [← Array.forIn_toList]
  simp only [List.forIn_cons, List.forIn_nil]
  refine wpAny_bind (wpAny_bind (wpAny_holding ?_))
  show wpAny _ _ (Builtin.SmallTypes.nextOf (.ref i1) >>= _) _ _ _
  refine wpAny_bind (nextOf_tuple_item (s := { s with heap := h₁ }) (h1.extBut hs₁.extBut D.i1z) (hl1.extBut hs₁.extBut D.l1z) hx fun h₂ h1₂ hs₂ => wpAny_pure ?_)
  refine wpAny_pure ?_
  refine wpAny_bind (wpAny_bind (wpAny_holding ?_))
  show wpAny _ _ (Builtin.SmallTypes.nextOf (.ref i2) >>= _) _ _ _
  refine wpAny_bind (nextOf_tuple_item (s := { s with heap := h₂ }) ((h2.extBut hs₁.extBut D.i2z).extBut hs₂.extBut D.i12.symm) ((hl2.extBut hs₁.extBut D.l2z).extBut hs₂.extBut D.l2i1) hy fun h₃ h2₃ hs₃ => wpAny_pure ?_)
  refine wpAny_pure (wpAny_pure ?_)
  show wpAny _ _ (newTuple [x, y] >>= _) _ _ _
  refine wpAny_bind (wpAny_newTuple ?_)
  have hsz : h₃.objs.size = s.heap.objs.size := by rw [hs₃.1, hs₂.1, hs₁.1]
  have hz₃ : IsZipHeld h₃ z TI TO T true := hs₃.extBut _ _ D.i2z.symm (hs₂.extBut _ _ D.i1z.symm hz₁)
  have hk : ∀ c o, c ≠ z → c ≠ i1 → c ≠ i2 → s.heap.get? c = some o → h₃.get? c = some o := fun c o c1 c2 c3 e => hs₃.extBut _ _ c3 (hs₂.extBut _ _ c2 (hs₁.extBut _ _ c1 e))
  have h1₃ : h₃.IsTupleIter i1 l1 (k1 + 1) := h1₂.extBut hs₃.extBut D.i12
  refine wpAny_pure ⟨_, rfl, ?_⟩
  show Q (.ref h₃.objs.size) _
  have hp : IsPair (h₃.push { cls := .type "tuple", data := .seq #[x, y] }) h₃.objs.size x y := Heap.get?_push_size _ rfl
  have hz4 : (h₃.push { cls := .type "tuple", data := .seq #[x, y] }).objs.size = h₃.objs.size + 1 := Heap.size_push ..
  rw [hsz] at hp hz4 ⊢
  exact hQ _ (Heap.get?_push_of_some _ hz₃) (h1₃.at fun o e => Heap.get?_push_of_some _ e) (h2₃.at fun o e => Heap.get?_push_of_some _ e) hp hz4 fun c o c1 c2 c3 e => Heap.get?_push_of_some _ (hk c o c1 c2 c3 e)
theorem end_held {z TI TO T i1 i2 l1 l2 : Addr} {f : Bool} {oT : Obj} {k1 k2 : Nat} {xs ys : Array Value} {Q : Fin → Shared → Prop} (hh : A.handled = none) (D : ZipApart z TI TO i1 i2 l1 l2)
    (hz : IsZipHeld s.heap z TI TO T f) (hT : s.heap.get? T = some oT) (hTI : IsPair s.heap TI (.ref i1) (.ref i2))
    (h1 : s.heap.IsTupleIter i1 l1 k1) (h2 : s.heap.IsTupleIter i2 l2 k2) (hl1 : s.heap.IsTuple l1 xs) (hl2 : s.heap.IsTuple l2 ys) (hend : xs[k1]? = none ∨ ys[k2]? = none)
    (hE : ∀ h' e, (∀ c o, c ≠ z → c ≠ i1 → c ≠ i2 → s.heap.get? c = some o → h'.get? c = some o) → (∃ o, h'.get? e = some o ∧ o.cls = .type "StopIteration") → E (.ref e) { s with heap := h' }) :
    wpAny (model prog w) A (Builtin.«zip.__next__» ⟨[.ref z], []⟩) Q E s := by
  show wpAny _ _ (field (.ref z) 2 >>= _) _ _ _
  refine wpAny_bind (wpAny_field hz rfl (x := .bool false) rfl ?_)
  show wpAny _ _ (field (.ref z) 3 >>= _) _ _ _
  refine wpAny_bind (wpAny_field hz rfl (x := .ref TI) rfl ?_)
  refine wpAny_bind (wpAny_seqItems hTI rfl ?_)
  show wpAny _ _ (Builtin.SmallTypes.ownedTupleIsFree (.ref z) >>= _) _ _ _
  refine wpAny_bind (wpAny_tupleHeld_zip hz hT fun h₁ hz₁ hs₁ => ?_)
  simp only [Bool.false_eq_true, if_false]
  refine wpAny_bind ?_
  rw [← Array.forIn_toList]
  simp only [List.forIn_cons, List.forIn_nil]
  refine wpAny_bind (wpAny_bind (wpAny_holding ?_))
  show wpAny _ _ (Builtin.SmallTypes.nextOf (.ref i1) >>= _) _ _ _
  cases hx : xs[k1]? with
  | none =>
    refine wpAny_bind (nextOf_tuple_end (s := { s with heap := h₁ }) hh (h1.extBut hs₁.extBut D.i1z) (hl1.extBut hs₁.extBut D.l1z) hx fun h₂ e hs₂ he => ?_)
    exact hE h₂ e (fun c o c1 c2 _ x => hs₂ _ _ c2 (hs₁.extBut _ _ c1 x)) he
  | some x =>
    have hy : ys[k2]? = none := by rcases hend with h | h; rw [hx] at h; cases h; exact h
    refine wpAny_bind (nextOf_tuple_item (s := { s with heap := h₁ }) (h1.extBut hs₁.extBut D.i1z) (hl1.extBut hs₁.extBut D.l1z) hx fun h₂ h1₂ hs₂ => wpAny_pure ?_)
    refine wpAny_pure ?_
    refine wpAny_bind (wpAny_bind (wpAny_holding ?_))
    show wpAny _ _ (Builtin.SmallTypes.nextOf (.ref i2) >>= _) _ _ _
    refine wpAny_bind (nextOf_tuple_end (s := { s with heap := h₂ }) hh ((h2.extBut hs₁.extBut D.i2z).extBut hs₂.extBut D.i12.symm) ((hl2.extBut hs₁.extBut D.l2z).extBut hs₂.extBut D.l2i1) hy fun h₃ e hs₃ he => ?_)
    exact hE h₃ e (fun c o c1 c2 c3 x => hs₃ _ _ c3 (hs₂.extBut _ _ c2 (hs₁.extBut _ _ c1 x))) he
theorem pyItem_held {z TI TO T i1 i2 l1 l2 : Addr} {f : Bool} {oT : Obj} {k1 k2 : Nat} {xs ys : Array Value} {x y : Value} {Q : Option Value → Shared → Prop} (D : ZipApart z TI TO i1 i2 l1 l2)
    (hz : IsZipHeld s.heap z TI TO T f) (hT : s.heap.get? T = some oT) (hTI : IsPair s.heap TI (.ref i1) (.ref i2))
    (h1 : s.heap.IsTupleIter i1 l1 k1) (h2 : s.heap.IsTupleIter i2 l2 k2) (hl1 : s.heap.IsTuple l1 xs) (hl2 : s.heap.IsTuple l2 ys) (hx : xs[k1]? = some x) (hy : ys[k2]? = some y)
    (hQ : ∀ h', IsZipHeld h' z TI TO T true → h'.IsTupleIter i1 l1 (k1 + 1) → h'.IsTupleIter i2 l2 (k2 + 1) → IsPair h' s.heap.objs.size x y → h'.objs.size = s.heap.objs.size + 1 →
      (∀ c o, c ≠ z → c ≠ i1 → c ≠ i2 → s.heap.get? c = some o → h'.get? c = some o) → Q (some (.ref s.heap.objs.size)) { s with heap := h' }) :
    wpAny (model prog w) A (pyNext (.ref z)) Q E s := by
  have hTy : s.TypeIs (.ref z) "zip" := ⟨_, hz, rfl⟩
  unfold pyNext
  exact wpAny_bind (wpAny_attempt (wpAny_callSpecial?_slot (name := Str.ofString "__next__") hTy F.slot_zip_next
    (wpAny_call_entry F.slot_zip_next hTy F.entry_zip_next
      (item_held D hz hT hTI h1 h2 hl1 hl2 hx hy fun h' a1 a3 a4 a5 a6 a7 => wpAny_pure (hQ h' a1 a3 a4 a5 a6 a7)) (F.args_zip_next_1 _))))
theorem pyEnd_held {z TI TO T i1 i2 l1 l2 : Addr} {f : Bool} {oT : Obj} {k1 k2 : Nat} {xs ys : Array Value} {Q : Option Value → Shared → Prop} (hh : A.handled = none) (D : ZipApart z TI TO i1 i2 l1 l2)
    (hz : IsZipHeld s.heap z TI TO T f) (hT : s.heap.get? T = some oT) (hTI : IsPair s.heap TI (.ref i1) (.ref i2))
    (h1 : s.heap.IsTupleIter i1 l1 k1) (h2 : s.heap.IsTupleIter i2 l2 k2) (hl1 : s.heap.IsTuple l1 xs) (hl2 : s.heap.IsTuple l2 ys) (hend : xs[k1]? = none ∨ ys[k2]? = none)
    (hQ : ∀ h', (∀ c o, c ≠ z → c ≠ i1 → c ≠ i2 → s.heap.get? c = some o → h'.get? c = some o) → Q none { s with heap := h' }) : wpAny (model prog w) A (pyNext (.ref z)) Q E s := by
  have hTy : s.TypeIs (.ref z) "zip" := ⟨_, hz, rfl⟩
  unfold pyNext
  refine wpAny_bind (wpAny_attempt (wpAny_callSpecial?_slot (name := Str.ofString "__next__") hTy F.slot_zip_next
    (wpAny_call_entry F.slot_zip_next hTy F.entry_zip_next (end_held hh D hz hT hTI h1 h2 hl1 hl2 hend fun h' e hk he => ?_) (F.args_zip_next_1 _))))
  obtain ⟨o, ho, hc⟩ := he
  refine wpAny_bind (wpAny_isInstance (T := "StopIteration") (b := true) ⟨o, ho, hc⟩ isSubtype_stop ?_)
  exact wpAny_pure (hQ _ hk)
end
/-- a zip object of two tuples that has told i pairs -/
structure St (z TI TO i1 i2 l1 l2 : Addr) (xs ys : Array Value) (S : Addr) (h : Heap) (i : Nat) : Prop where
  hTI : IsPair h TI (.ref i1) (.ref i2)
  h1 : h.IsTupleIter i1 l1 i
  h2 : h.IsTupleIter i2 l2 i
  t1 : h.IsTuple l1 xs
  t2 : h.IsTuple l2 ys
  hz : (IsZip h z TI TO .none ∧ ∃ a b, IsPair h TO a b) ∨ ∃ T f oT, IsZipHeld h z TI TO T f ∧ h.get? T = some oT ∧ T ≠ z ∧ T ≠ i1 ∧ T ≠ i2 ∧ T ≠ S
section
variable {prog : Program} {w : World} {A : Around} {E : Value → Shared → Prop} {s : Shared} {z TI TO i1 i2 l1 l2 S : Addr} {xs ys : Array Value} {i : Nat} {Q : Option Value → Shared → Prop}
theorem next (D : ZipApart z TI TO i1 i2 l1 l2) (hS : S < s.heap.objs.size) (st : St z TI TO i1 i2 l1 l2 xs ys S s.heap i) (hx : i < xs.size) (hy : i < ys.size)
    (hQ : ∀ h' tk, St z TI TO i1 i2 l1 l2 xs ys S h' (i + 1) → h'.get? s.heap.objs.size = some { cls := .type "tuple", data := .seq #[xs[i], ys[i]] } → h'.objs.size = s.heap.objs.size + 1 →
      (∀ b o, b ≠ z → b ≠ TO → b ≠ i1 → b ≠ i2 → s.heap.get? b = some o → h'.get? b = some o) → Q (some (.ref s.heap.objs.size)) { s with heap := h', toks := tk }) : wpAny (model prog w) A (pyNext (.ref z)) Q E s := by
  have ex := Array.getElem?_eq_getElem hx
  have ey := Array.getElem?_eq_getElem hy
  have lt : ∀ {c o}, s.heap.get? c = some o → s.heap.objs.size ≠ c := fun e => Nat.ne_of_gt (Heap.lt_size e)
  have n1 : s.heap.objs.size ≠ i1 := let ⟨_, e, _⟩ := st.h1; lt e
  have n2 : s.heap.objs.size ≠ i2 := let ⟨_, e, _⟩ := st.h2; lt e
  rcases st.hz with ⟨hz, a, b, hTO⟩ | ⟨T, f, oT, hz, hT, r1, r2, r3, r4⟩
  · refine pyNext_zipT_item D hz st.hTI hTO st.h1 st.h2 st.t1 st.t2 ex ey fun h' a1 a2 a3 a4 a5 a6 hk => ?_
    exact hQ h' s.toks ⟨hk _ _ D.TIz D.TITO D.TIi1 D.TIi2 st.hTI, a3, a4, st.t1.at fun o e => hk _ o D.l1z D.l1TO D.l1i1 D.l1i2 e, st.t2.at fun o e => hk _ o D.l2z D.l2TO D.l2i1 D.l2i2 e,
      .inr ⟨s.heap.objs.size, false, _, a1, a5, lt hz, n1, n2, Nat.ne_of_gt hS⟩⟩ a5 a6 fun c o c1 c2 c3 c4 e => hk c o c1 c2 c3 c4 e
  · refine pyItem_held D hz hT st.hTI st.h1 st.h2 st.t1 st.t2 ex ey fun h' a1 a3 a4 a5 a6 hk => ?_
    exact hQ h' s.toks ⟨hk _ _ D.TIz D.TIi1 D.TIi2 st.hTI, a3, a4, st.t1.at fun o e => hk _ o D.l1z D.l1i1 D.l1i2 e, st.t2.at fun o e => hk _ o D.l2z D.l2i1 D.l2i2 e,
      .inr ⟨T, true, oT, a1, hk _ _ r1 r2 r3 hT, r1, r2, r3, r4⟩⟩ a5 a6 fun c o c1 _ c3 c4 e => hk c o c1 c3 c4 e
theorem fin (D : ZipApart z TI TO i1 i2 l1 l2) (hh : A.handled = none) (st : St z TI TO i1 i2 l1 l2 xs ys S s.heap i) (hend : xs[i]? = none ∨ ys[i]? = none) (hQ : ∀ h', (∀ b o, b ≠ z → b ≠ TO → b ≠ i1 → b ≠ i2 → s.heap.get? b = some o → h'.get? b = some o) → Q none { s with heap := h' }) : wpAny (model prog w) A (pyNext (.ref z)) Q E s := by
  rcases st.hz with ⟨hz, a, b, hTO⟩ | ⟨T, f, oT, hz, hT, r1, r2, r3, r4⟩
  · exact pyNext_zipT_end hh D hz st.hTI hTO st.h1 st.h2 st.t1 st.t2 hend fun h' hk => hQ h' fun c o c1 c2 c3 c4 e => hk c o c1 c2 c3 c4 e
  · exact pyEnd_held hh D hz hT st.hTI st.h1 st.h2 st.t1 st.t2 hend fun h' hk => hQ h' fun c o c1 _ c3 c4 e => hk c o c1 c3 c4 e
end
end ZpL
namespace Z
open PySem PySem.Spec L2
end Z
namespace Z
open PySem PySem.Spec L2
end Z
namespace Z
open PySem PySem.Spec L2
end Z
namespace L2.DX
open PySem PySem.Spec PyProof.Rows
end L2.DX
namespace Z
open PySem PySem.Spec L2
end Z
namespace Z
open PySem PySem.Spec L2
end Z
namespace Z
open PySem PySem.Spec L2
section
variable {g g' : Gs} {i : Nat} {c f : Str} {fs fs' : List (Str × O)} {o x y z : O} {π : Pth} {A : O → Gs → Prop} {AF : Fl → Gs → Prop} {AD : List PyData → Gs → Prop} {AO : O → Prop} {B : Exn → Gs → Prop} {mp : M Pth} {m : M O} {mf : M Fl}
/-- what stands at a place -/
class GpC (g : Gs) (i : Nat) (π : Pth) (x : outParam O) : Prop where
  eq : getPl g i π = some x
/-- a place changed -/
class SpC (g : Gs) (i : Nat) (π : Pth) (y : O) (g' : outParam Gs) : Prop where
  eq : setPl g i π y = g'
instance gp0 [h : Get g i (some o)] : GpC g i [] o := ⟨getPl_nil h.get⟩
instance sp0 [h : Get g i (some o)] [p : Put g i (some y) g'] : SpC g i [] y g' := ⟨by rw [setPl_nil h.get, p.put]⟩
/-- standing still -/
class StFC (x : O) (y : outParam O) : Prop where
  eq : stF x = y
instance s_ghP [h : GpC g i π x] [l : StFC x y] [p : SpC g i π y g'] : Stp (Wp (ghPF i π mf g) AF B) (Wp (mf g') AF B) := ⟨fun k => wp_ghP h.eq (by rw [l.eq, p.eq]; exact k)⟩
end
end Z
namespace Z
open PySem PySem.Spec L2
end Z
namespace Z
open PySem PySem.Spec L2
end Z
namespace Z
open PySem PySem.Spec L2
end Z
namespace Z
open PySem PySem.Spec L2
end Z
namespace Z
open PySem PySem.Spec L2
structure WkO (K : PySem.W.Frag) (mg : Str → Option Value) (J : It) (Tk : Roots) (os : List O) : Prop where
  go : ∀ (i : Nat) (H : Hp) (Ex : List (Addr × HO)) (rs : Roots), i < os.length → Rel K mg H Ex (Tk ++ rs) [] → J.go i H
  stop : ∀ (i : Nat) (H : Hp) (Ex : List (Addr × HO)) (rs : Roots), os.length ≤ i → Rel K mg H Ex (Tk ++ rs) [] → J.stop i H
  yld : ∀ (i : Nat) (H : Hp) (Ex : List (Addr × HO)) (rs : Roots) (x : V) (H' : Hp) (hi : i < os.length), Rel K mg H Ex (Tk ++ rs) [] → J.yld i H x H' → Same H H' ∧ Rel K mg H' Ex ((x, os[i]) :: (Tk ++ rs)) []
structure EvIO (X : Cx) (W : WX) (pu : Bool) (tg iter : Expr) (m : M (List O)) : Prop where
  ex : ∃ wi, PI X tg iter wi ∧ ∀ (σ : L2.St) (H : Hp) (R : It → Hp → Prop) (g : Gs) (T : Roots) (Ex : List (Addr × HO)) (ws : Roots), At X H Ex σ g T ws →
    Wp (m g) (fun ds g' => ∀ J H' Tk, WkO X.K X.mg J Tk ds → (pu = true → g' = g ∧ Same H H') → At X H' Ex σ g' (Tk ++ T) (Vs pu ws) → R J H')
      (fun x g' => ∀ H' cls d, At X H' Ex σ g' T [] → ExAt X.mg Ex cls d H' x → W cls d σ H') → wi σ H R
section
variable {X : Cx} {W : WX} {pu pv pw : Bool} {H H' : Hp} {Ex : List (Addr × HO)} {σ σ' : L2.St} {g : Gs} {T T' ws ws' : Roots} {e a b o : Expr} {es : List Expr} {m : M O} {pos p apos : Pos} {k j np : Nat} {x : Str}
def forOM (set : O → M Unit) (body : M Fl) : List O → M Fl
  | [] => M.ret .next
  | x :: r => M.bd (set x) fun _ => M.bd body fun fl => match fl with
    | .next => forOM set body r
    | .cnt => forOM set body r
    | .brk => M.ret .next
    | .ret o => M.ret (.ret o)
theorem es_forO {tg iter : Expr} {body : List Stmt} {mi : M (List O)} {set : O → M Unit} {mb : M Fl} (c : Cc X W k) (hi : EvIO X W pu tg iter mi) (hg : EvG X W np tg set) (hb : EvSs X W np body mb)
    (hs : ∀ x, foldedSetIterable iter X.env x = pure x := by intro _; rfl) : EvS X W np (.For tg iter body [] pos) (M.bd mi (forOM set mb)) := by
  obtain ⟨wi, i1, i2⟩ := hi.ex
  obtain ⟨tg', t1, t2⟩ := hg.ex
  obtain ⟨tb, b1, b2⟩ := hb.ex
  refine ⟨_, ps_for c.own c.calm i1 t1 b1 hs, fun σ H D g T Ex a w => ?_⟩
  refine i2 σ H _ g T Ex [] a (w.bd.imp (fun ds g' kk J H' Tk wk s a' => ?_) fun x g' kk H' cls d a' e => kk σ H' cls d .refl a' e)
  refine ⟨fun i n σ1 H1 => n = ds.length - i ∧ i ≤ ds.length ∧ Pin np σ σ1 ∧ ∃ g1, At X H1 Ex σ1 g1 (Tk ++ T) [] ∧ Wp (forOM set mb (ds.drop i) g1) (SPost X np σ T Ex D) (XPost X W np σ T Ex),
    ⟨ds.length, rfl, Nat.zero_le _, .refl, g', a'.noV, kk⟩, ?_⟩
  rintro i n σ1 H1 ⟨rfl, hle, pin, g1, a1, w1⟩
  by_cases hlt : i < ds.length
  · refine .inr ⟨wk.go i H1 Ex _ hlt a1.relT, fun σ2 H2 => ∃ m', m' < ds.length - i ∧ (m' = ds.length - (i + 1) ∧ i + 1 ≤ ds.length ∧ Pin np σ σ2 ∧ ∃ g2, At X H2 Ex σ2 g2 (Tk ++ T) [] ∧ Wp (forOM set mb (ds.drop (i + 1)) g2) (SPost X np σ T Ex D) (XPost X W np σ T Ex)), fun _ _ h => h, fun x H2 y => ?_⟩
    obtain ⟨s2, r2⟩ := wk.yld i H1 Ex _ x H2 hlt a1.relT y
    rw [List.drop_eq_getElem_cons hlt] at w1
    refine t2 σ1 H2 _ g1 (Tk ++ T) Ex x _ (.ofTop a1.fit (r2.perm (.cons _ (List.perm_append_comm_assoc _ _ _)))) ((Wp.bd w1).imp (fun _ g2 kk σ2 H3 p2 a2 => ?_) fun x g2 kk σ' H' cls d q a2 e => kk σ' H' cls d (pin.trans q) a2.dropTs e)
    refine b2 σ2 H3 _ g2 (Tk ++ T) Ex a2 ((Wp.bd kk).imp (fun fl g3 kk => ?_) fun x g2 kk σ' H' cls d q a2 e => kk σ' H' cls d ((pin.trans p2).trans q) a2.dropTs e)
    cases fl with
    | next => exact fun σ3 H4 p3 a3 => ⟨_, by omega, rfl, hlt, (pin.trans p2).trans p3, g3, a3, kk⟩
    | cnt => exact fun σ3 H4 p3 a3 => ⟨_, by omega, rfl, hlt, (pin.trans p2).trans p3, g3, a3, kk⟩
    | brk => exact fun σ3 H4 p3 a3 => kk σ3 H4 ((pin.trans p2).trans p3) a3.dropTs
    | ret o => exact fun v σ3 H4 p3 a3 => kk v σ3 H4 ((pin.trans p2).trans p3) (At.ofTop a3.fit (a3.top.perm (.cons _ (List.perm_append_comm_assoc _ _ _)) |>.perm (List.perm_middle (l₁ := Tk)).symm |>.dropL))
  · have e : i = ds.length := by omega
    subst e
    rw [List.drop_length] at w1
    exact .inl ⟨wk.stop _ H1 Ex _ (Nat.le_refl _) a1.relT, w1 σ1 H1 pin a1.dropTs⟩
end
section
variable {K : PySem.W.Frag} {mg : Str → Option Value} {H H' : Hp} {Ex : List (Addr × HO)} {rs ws : Roots}
/-- a list that stands still, and its items -/
theorem Rel.frL {v : V} {os : List O} (r : Rel K mg H Ex ((v, .fr (.lst os)) :: rs) ws) : ∃ (a : Addr) (vs : List V), v = .ref a ∧ SqL K H a vs ∧ vs.length = os.length ∧ (∀ (i : Nat) (u : V) (z : O), vs[i]? = some u → os[i]? = some z → z.nd = true → (∃ b, u = .ref b) ∧ Rel K mg H Ex ((u, .fr z) :: (v, .fr (.lst os)) :: rs) ws) := by
  obtain ⟨Hf, as, s, he, ho, nd, hn, hw⟩ := r.ex
  have ho0 := ho
  cases ho with
  | cons h t =>
    cases h with
    | fr n h =>
      cases h with
      | lst q u =>
        refine ⟨_, _, rfl, SqL.of (s.same _ _ q), owLLen u, fun i w z h1 h2 h3 => ?_⟩
        obtain ⟨bs, hb⟩ := owLGetO u h1 h2
        refine ⟨owRef hb h3, ⟨Hf, _, s, he, .cons (as := []) (.fr h3 hb) ho0, nd, hn, hw⟩⟩
theorem Rel.newTupO {rs : Roots} {vs : List V} {os : List O} {p : Addr} (r : Rel K mg H Ex (vs.zip os ++ rs) ws) (hl : vs.length = os.length) (hp : H p = none) (hr : ∃ b, V.ref b ∈ vs) : Rel K mg (upd H p (.tup vs)) Ex ((.ref p, .tup os) :: rs) ws :=
  (r.new (.tup vs) hp (by intro xs e; cases e; exact hr)).shut (.tup (os := os)) hl
/-- items that are no data, with what is walked beside them -/
def ndAll (os : List O) : Bool := os.all O.nd
theorem ndAll_get {os : List O} (h : ndAll os = true) {i : Nat} (hi : i < os.length) : os[i].nd = true := List.all_eq_true.mp h _ (List.getElem_mem hi)
def zpOI (os : List O) (ys : List PyData) : List O := (os.zip ys).map fun p => .tup [.fr p.1, .d p.2]
theorem zpOI_len (os : List O) (ys : List PyData) : (zpOI os ys).length = min os.length ys.length := by unfold zpOI; rw [List.length_map, List.length_zip]
theorem zpOI_get {os : List O} {ys : List PyData} {i : Nat} (h : i < (zpOI os ys).length) (h1 : i < os.length) (h2 : i < ys.length) : (zpOI os ys)[i] = .tup [.fr os[i], .d ys[i]] := by
  simp only [zpOI, List.getElem_map, List.getElem_zip]
theorem Rel.lstD {v : V} {ds : List PyData} (r : Rel K mg H Ex ((v, .d (.list ds)) :: rs) ws) : ∃ (a : Addr) (vs : List V), v = .ref a ∧ SqL K H a vs ∧ vs.length = ds.length ∧ (∀ (i : Nat) (u : V) (hi : i < ds.length), vs[i]? = some u → Rel K mg H Ex ((u, .d ds[i]) :: (v, .d (.list ds)) :: rs) ws) := by
  obtain ⟨Hf, as, s, he, ho, nd, hn, hw⟩ := r.ex
  have ho0 := ho
  cases ho with
  | cons h t =>
    cases h with
    | d h =>
      cases h with
      | lst q u =>
        exact ⟨_, _, rfl, SqL.of (s _ _ q), dpLen u, fun i w hi h1 => ⟨Hf, _, s, he, .cons (as := []) (.d (dpGet u h1 hi)) ho0, nd, hn, hw⟩⟩
theorem wkZpO {a b : Addr} {os : List O} {ys : List PyData} (ok : ndAll os = true) : WkO K mg (Itz K a b) [(.ref a, .fr (.lst os)), (.ref b, .d (.list ys))] (zpOI os ys) where
  go := fun i H Ex rs hi r => by
    rw [zpOI_len] at hi
    obtain ⟨a1, us, e1, q1, l1, _⟩ := Rel.frL r
    obtain ⟨b1, vs, e2, q2, l2, _⟩ := Rel.lstD (r.perm (List.Perm.swap _ _ _))
    cases e1; cases e2
    exact ⟨us, vs, us[i]'(by omega), vs[i]'(by omega), q1, q2, by simp, by simp⟩
  stop := fun i H Ex rs hi r => by
    rw [zpOI_len] at hi
    obtain ⟨a1, us, e1, q1, l1, _⟩ := Rel.frL r
    obtain ⟨b1, vs, e2, q2, l2, _⟩ := Rel.lstD (r.perm (List.Perm.swap _ _ _))
    cases e1; cases e2
    exact ⟨_, _, q1, q2, by omega⟩
  yld := fun i H Ex rs x H' hi r y => by
    have hl := hi
    rw [zpOI_len] at hl
    obtain ⟨T, z, w, ev, hT, eH, hz, hw⟩ := y
    subst ev eH
    obtain ⟨a1, us, e1, q1, l1, k1⟩ := Rel.frL r
    cases e1
    obtain ⟨⟨c, hc⟩, r1⟩ := k1 i z os[i] (hz _ q1) (List.getElem?_eq_getElem (by omega)) (ndAll_get ok (by omega))
    have p1 : List.Perm ((z, O.fr os[i]) :: (V.ref a, O.fr (.lst os)) :: (V.ref b, O.d (.list ys)) :: rs) ((V.ref b, O.d (.list ys)) :: (z, O.fr os[i]) :: (V.ref a, O.fr (.lst os)) :: rs) := ((List.Perm.swap _ _ _).cons _).trans (List.Perm.swap _ _ _)
    obtain ⟨b1, vs, e2, q2, l2, k2⟩ := Rel.lstD (r1.perm p1)
    cases e2
    have r2 := k2 i w (by omega) (hw _ q2)
    have p2 : List.Perm ((w, O.d ys[i]) :: (V.ref b, O.d (.list ys)) :: (z, O.fr os[i]) :: (V.ref a, O.fr (.lst os)) :: rs) ((z, O.fr os[i]) :: (w, O.d ys[i]) :: (V.ref a, O.fr (.lst os)) :: (V.ref b, O.d (.list ys)) :: rs) :=
      (((List.Perm.swap _ _ _).cons _).trans (List.Perm.swap _ _ _)).trans (((List.Perm.swap _ _ _).cons _).cons _)
    have r3 := r2.perm p2
    have r4 : Rel K mg (upd H T (.tup [z, w])) Ex ((.ref T, .tup [.fr os[i], .d ys[i]]) :: (V.ref a, O.fr (.lst os)) :: (V.ref b, O.d (.list ys)) :: rs) [] :=
      Rel.newTupO (vs := [z, w]) (os := [.fr os[i], .d ys[i]]) r3 rfl hT ⟨c, by rw [hc]; simp⟩
    rw [zpOI_get hi (by omega) (by omega)]
    exact ⟨sameNew hT _, r4⟩
def enOI : Nat → List O → List O
  | _, [] => []
  | k, o :: r => .tup [.d (.int (k : Nat)), .fr o] :: enOI (k + 1) r
theorem enOI_len : ∀ (k : Nat) (os : List O), (enOI k os).length = os.length
  | _, [] => rfl
  | k, o :: r => by simp [enOI, enOI_len (k + 1) r]
theorem enOI_get : ∀ {k : Nat} {os : List O} {i : Nat} (h : i < (enOI k os).length) (h1 : i < os.length), (enOI k os)[i] = .tup [.d (.int ((k + i : Nat) : Int)), .fr os[i]]
  | k, o :: r, 0, _, _ => rfl
  | k, o :: r, i + 1, h, h1 => by
    simp only [enOI, List.getElem_cons_succ]
    rw [enOI_get (k := k + 1) (i := i), show k + 1 + i = k + (i + 1) by omega]
  | _, [], _, _, h1 => by simp at h1
theorem wkEnO {a : Addr} {os : List O} (ok : ndAll os = true) : WkO K mg (Ite K a) [(.ref a, .fr (.lst os))] (enOI 0 os) where
  go := fun i H Ex rs hi r => by
    rw [enOI_len] at hi
    obtain ⟨a1, us, e1, q1, l1, _⟩ := Rel.frL r
    cases e1
    exact ⟨us, us[i]'(by omega), q1, by simp⟩
  stop := fun i H Ex rs hi r => by
    rw [enOI_len] at hi
    obtain ⟨a1, us, e1, q1, l1, _⟩ := Rel.frL r
    cases e1
    exact ⟨_, q1, by omega⟩
  yld := fun i H Ex rs x H' hi r y => by
    have hl := hi
    rw [enOI_len] at hl
    obtain ⟨T, z, ev, hT, eH, hz⟩ := y
    subst ev eH
    obtain ⟨a1, us, e1, q1, l1, k1⟩ := Rel.frL r
    cases e1
    obtain ⟨⟨c, hc⟩, r1⟩ := k1 i z os[i] (hz _ q1) (List.getElem?_eq_getElem (by omega)) (ndAll_get ok (by omega))
    have r3 : Rel K mg H Ex ((.int (i : Nat), .d (.int (i : Nat))) :: (z, .fr os[i]) :: (.ref a, .fr (.lst os)) :: rs) [] := r1.data fun _ => .int _
    have r4 : Rel K mg (upd H T (.tup [.int (i : Nat), z])) Ex ((.ref T, .tup [.d (.int (i : Nat)), .fr os[i]]) :: (.ref a, .fr (.lst os)) :: rs) [] :=
      Rel.newTupO (vs := [.int (i : Nat), z]) (os := [.d (.int (i : Nat)), .fr os[i]]) r3 rfl hT ⟨c, by rw [hc]; simp⟩
    rw [enOI_get hi (by omega), Nat.zero_add]
    exact ⟨sameNew hT _, r4⟩
end
def zpOM (os : List O) : M (List O) := fun g => match os with
  | [.fr (.lst xs), .d (.list ys)] => if ndAll xs = true then .ok (zpOI xs ys) g else .bad
  | _ => .bad
theorem ei_zipO {X : Cx} {W : WX} {pu : Bool} {a b : Expr} {p pos tpos : Pos} {elts : List Expr} {kk : Nat} {ms : M (List O)} (h : EvEs X W pu [a, b] ms) (hg : Gl X "zip") (hm : X.mg "zip" = none) (hs : starEach [a, b] X.env = (false, eval a X.env) :: starEach [b] X.env := by rfl)
    (hpl : (backTo pos (starEach [b] X.env)).any (·.1) = false := by rfl) : EvIO X W pu (.Tuple elts kk tpos) (.Call (.Name "zip" p) [a, b] [] pos) (M.bd ms zpOM) := by
  obtain ⟨ts, g1, g2⟩ := h.ex
  refine ⟨_, RZ.pi_zipA hg hm g1.pa hs hpl, fun σ H R g T Ex ws a w => g2 σ H _ g T Ex ws a (w.bd.imp (fun os g' kq vs H' hl s a' => ?_) fun _ _ kq => kq)⟩
  unfold zpOM at kq
  split at kq
  · rename_i xs ys
    split at kq
    · rename_i ok
      match vs, hl with
      | [v, u], _ =>
        have a1 : At X H' Ex σ g' ((v, .fr (.lst xs)) :: (u, .d (.list ys)) :: T) (Vs pu ws) := a'
        have r1 : Rel X.K X.mg H' Ex ((v, .fr (.lst xs)) :: (u, .d (.list ys)) :: (roots σ g' ++ T)) (Vs pu ws) := a1.rel.perm ((List.perm_middle).trans (.cons _ List.perm_middle))
        obtain ⟨a2, us, e1, q1, l1, _⟩ := Rel.frL r1
        obtain ⟨b2, vs2, e2, q2, l2, _⟩ := Rel.lstD (r1.perm (List.Perm.swap _ _ _))
        subst e1 e2
        exact ⟨_, _, _, _, rfl, .inl ⟨q1, q2, kq _ H' [(_, .fr (.lst xs)), (_, .d (.list ys))] (wkZpO ok) s a1⟩⟩
    · exact kq.elim
  · exact kq.elim
def enOM (os : List O) : M (List O) := fun g => match os with
  | [.fr (.lst xs)] => if ndAll xs = true then .ok (enOI 0 xs) g else .bad
  | _ => .bad
theorem ei_enumO {X : Cx} {W : WX} {pu : Bool} {a : Expr} {p pos tpos : Pos} {elts : List Expr} {kk : Nat} {ms : M (List O)} (h : EvEs X W pu [a] ms) (hg : Gl X "enumerate") (hm : X.mg "enumerate" = none) (hs : starEach [a] X.env = [(false, eval a X.env)] := by rfl) : EvIO X W pu (.Tuple elts kk tpos) (.Call (.Name "enumerate" p) [a] [] pos) (M.bd ms enOM) := by
  obtain ⟨ts, g1, g2⟩ := h.ex
  refine ⟨_, pi_enum hg hm g1.pa hs, fun σ H R g T Ex ws a w => g2 σ H _ g T Ex ws a (w.bd.imp (fun os g' kq vs H' hl s a' => ?_) fun _ _ kq => kq)⟩
  unfold enOM at kq
  split at kq
  · rename_i xs
    split at kq
    · rename_i ok
      match vs, hl with
      | [v], _ =>
        have a1 : At X H' Ex σ g' ((v, .fr (.lst xs)) :: T) (Vs pu ws) := a'
        obtain ⟨a2, us, e1, q1, l1, _⟩ := Rel.frL a1.top
        subst e1
        exact ⟨_, _, rfl, q1, kq _ H' [(_, .fr (.lst xs))] (wkEnO ok) s a1⟩
    · exact kq.elim
  · exact kq.elim
def ForOK (set : O → M Unit) (a : M Fl) (r : List O) (AF : Fl → Gs → Prop) (B : Exn → Gs → Prop) : Fl → Gs → Prop
  | .next, g => Wp (forOM set a r g) AF B
  | .cnt, g => Wp (forOM set a r g) AF B
  | .brk, g => AF .next g
  | .ret o, g => AF (.ret o) g
section
variable {A : O → Gs → Prop} {AF : Fl → Gs → Prop} {AD : List O → Gs → Prop} {B : Exn → Gs → Prop} {g : Gs} {a : M Fl}
instance s_forOS {set : O → M Unit} {x : O} {r : List O} : Stp (Wp (forOM set a (x :: r) g) AF B) (Wp (set x g) (fun _ g1 => Wp (a g1) (ForOK set a r AF B) B) B) := ⟨fun h => by
  simp only [forOM, wp_bd]
  refine h.mono (fun _ g1 q => q.mono (fun fl g2 z => ?_) fun _ _ z => z) fun _ _ z => z
  cases fl <;> exact z⟩
instance s_zpOM {os : List O} {ys : List PyData} : Stp (Wp (zpOM [.fr (.lst os), .d (.list ys)] g) AD B) (Sd (ndAll os = true) (AD (zpOI os ys) g)) := ⟨fun h => by
  show Wp (if ndAll os = true then _ else _) _ _
  rw [if_pos h.l]
  exact h.r⟩
/-- a walk over a row of things -/
theorem wp_forO {ι : Type} {set : O → M Unit} (e : ι → O) (I : List ι → Gs → Prop)
    (he : ∀ g, I [] g → AF .next g)
    (hs : ∀ x r g, I (x :: r) g → Wp (set (e x) g) (fun _ g1 => Wp (a g1) (ForI I r AF) B) B) : ∀ {l : List ι} {g : Gs}, I l g → Wp (forOM set a (l.map e) g) AF B
  | [], g, h => he g h
  | x :: r, g, h => by
    rw [List.map_cons]
    refine Stp.go ((hs x r g h).mono (fun _ g1 q => q.mono (fun fl g2 z => ?_) fun _ _ z => z) fun _ _ z => z)
    cases fl with
    | next => exact wp_forO e I he hs z
    | cnt => exact wp_forO e I he hs z
    | brk => exact z
    | ret o => exact z
end
end Z
namespace Lawk10
open PySem PySem.Spec L2 Z
noncomputable section
def g_law_kinds : M Fl := (retM (lstM (consM (isxM [("BadText", true), ("NoBook", false), ("NoErrand", false), ("NoWorld", false), ("NoWay", false), ("TooMany", false), ("NoRow", false)] (unM (pkM 0))) (consM (isxM [("BadText", false), ("NoBook", true), ("NoErrand", false), ("NoWorld", false), ("NoWay", false), ("TooMany", false), ("NoRow", false)] (unM (pkM 0))) (consM (isxM [("BadText", false), ("NoBook", false), ("NoErrand", true), ("NoWorld", false), ("NoWay", false), ("TooMany", false), ("NoRow", false)] (unM (pkM 0))) (consM (isxM [("BadText", false), ("NoBook", false), ("NoErrand", false), ("NoWorld", true), ("NoWay", false), ("TooMany", false), ("NoRow", false)] (unM (pkM 0))) (consM (isxM [("BadText", false), ("NoBook", false), ("NoErrand", false), ("NoWorld", false), ("NoWay", true), ("TooMany", false), ("NoRow", false)] (unM (pkM 0))) (consM (isxM [("BadText", false), ("NoBook", false), ("NoErrand", false), ("NoWorld", false), ("NoWay", false), ("TooMany", true), ("NoRow", false)] (unM (pkM 0))) (consM (isxM [("BadText", false), ("NoBook", false), ("NoErrand", false), ("NoWorld", false), ("NoWay", false), ("TooMany", false), ("NoRow", true)] (unM (pkM 0))) (M.ret []))))))))))
def f_law_kinds : Fn := runF 1 1 1 g_law_kinds
def g_law_caught : M Fl := (seqM (asgM (dM .none) (setM 4))
  (seqM (tryM ["BadText", "NoBook", "NoErrand", "NoWorld", "NoWay", "TooMany", "NoRow"] 5 (seqM (ifM (tstM (opM eqF (consM (pkM 0) (consM (dM (.int 0)) (M.ret []))))) (raiM "BadText" "at" (fzM 1)) (M.ret .next))
  (seqM (ifM (tstM (opM eqF (consM (pkM 0) (consM (dM (.int 1)) (M.ret []))))) (raiM "NoBook" "word" (fzM 3)) (M.ret .next))
  (seqM (ifM (tstM (opM eqF (consM (pkM 0) (consM (dM (.int 2)) (M.ret []))))) (raiM "NoErrand" "name" (fzM 2)) (M.ret .next))
  (seqM (ifM (tstM (opM eqF (consM (pkM 0) (consM (dM (.int 3)) (M.ret []))))) (raiM "NoWorld" "word" (fzM 3)) (M.ret .next))
  (seqM (ifM (tstM (opM eqF (consM (pkM 0) (consM (dM (.int 4)) (M.ret []))))) (raiM0 "NoWay") (M.ret .next))
  (seqM (ifM (tstM (opM eqF (consM (pkM 0) (consM (dM (.int 5)) (M.ret []))))) (raiM "TooMany" "most" (opM addF (consM (pkM 1) (consM (dM (.int 1)) (M.ret []))))) (M.ret .next))
  (raiM0 "NoRow"))))))) (asgM (cpM (pkM 5)) (setM 4)))
  (retM (mvM 4))))
def f_law_caught : Fn := runF 4 4 6 g_law_caught
def g_law_fields : M Fl := (retM (tupM (consM (xfM ["BadText"] "at" (unM (opM elF (consM (pkM 0) (consM (dM (.int 0)) (M.ret [])))))) (consM (xfM ["NoBook", "NoWorld"] "word" (unM (opM elF (consM (pkM 0) (consM (dM (.int 1)) (M.ret [])))))) (consM (xfM ["NoErrand"] "name" (unM (opM elF (consM (pkM 0) (consM (dM (.int 2)) (M.ret [])))))) (consM (xfM ["NoBook", "NoWorld"] "word" (unM (opM elF (consM (pkM 0) (consM (dM (.int 3)) (M.ret [])))))) (consM (xfM ["TooMany"] "most" (unM (opM elF (consM (pkM 0) (consM (dM (.int 5)) (M.ret [])))))) (M.ret []))))))))
def f_law_fields : Fn := runF 1 1 1 g_law_fields
def g_law : M Fl := (seqM (asgM (callM G.f_law_box [] (slIn 0 (valA (dM (.int 0)) (M.ret [])))) (setM 1))
  (seqM (asgM (lstM (M.ret [])) (setM 2))
  (seqM (asgM (lstM (M.ret [])) (setM 3))
  (seqM (M.bd (M.bd (consM (dM (.int 2)) (M.ret [])) rng1M) (forM (setM 4) (seqM (asgM (opM ixF (consM (lstM (consM (callM G.f_law_take [] (slIn 1 (valA (dM (.int 9)) (M.ret [])))) (consM (callM G.f_law_take [] (slIn 1 (valA (opM powF (consM (dM (.int 10)) (consM (dM (.int 6)) (M.ret [])))) (M.ret [])))) (M.ret [])))) (consM (callM G.f_law_take [] (slIn 1 (valA (dM (.int 2)) (M.ret [])))) (M.ret [])))) (setM 5))
  (seqM (asgM (callM G.f_law_name [] (slIn 1 (M.ret []))) (setM 6))
  (seqM (asgM (opM ixF (consM (lstM (consM (dM (.str "asks")) (consM (dM (.str "deeds")) (consM (dM (.str "fact")) (consM (dM (.str "rooms")) (consM (dM (.str "moves")) (consM (dM (.str "yes")) (M.ret [])))))))) (consM (callM G.f_law_take [] (slIn 1 (valA (dM (.int 6)) (M.ret [])))) (M.ret [])))) (setM 7))
  (seqM (dropM (appLM 2 (compM [11] (M.bd (consM (dM (.int 7)) (M.ret [])) rng1M) (setM 11) yesM (callM f_law_caught [] (slIn 11 (slIn 5 (slIn 6 (slIn 7 (M.ret [])))))))))
  (dropM (appLM 3 (tupM (consM (fzM 5) (consM (fzM 7) (consM (fzM 6) (consM (fzM 7) (consM (opM addF (consM (pkM 5) (consM (dM (.int 1)) (M.ret [])))) (M.ret [])))))))))))))))
  (ghPF 2 [] (seqM (M.bd (M.bd (consM (cpM (pkM 2)) (consM (fzM 3) (M.ret []))) zpOM) (forOM (tuoG (conO 8 (conO 9 nilO))) (seqM (ifM (tstM (opM neF (consM (callM f_law_fields [] (slIn 8 (M.ret []))) (consM (pkM 9) (M.ret []))))) (retM (dM (.bool false))) (M.ret .next))
  (M.bd (M.bd (consM (cpM (pkM 8)) (M.ret [])) enOM) (forOM (tuoG (conO 4 (conO 10 nilO))) (seqM (ifM (orZ (tstM (opM neF (consM (callM f_law_kinds [] (slIn 10 (M.ret []))) (consM (compM [11] (M.bd (consM (dM (.int 7)) (M.ret [])) rng1M) (setM 11) yesM (opM eqF (consM (pkM 11) (consM (pkM 4) (M.ret []))))) (M.ret []))))) (notZ (tstM (isxM [("BadText", true), ("NoBook", true), ("NoErrand", true), ("NoWorld", true), ("NoWay", true), ("TooMany", true), ("NoRow", true)] (unM (pkM 10)))))) (retM (dM (.bool false))) (M.ret .next))
  (ifM (notZ (tstM (isxM [("BadText", true), ("NoBook", true), ("NoErrand", true), ("NoWorld", true), ("NoWay", true), ("TooMany", true), ("NoRow", true)] (unM (pkM 10))))) (retM (dM (.bool false))) (M.ret .next))))))))
  (retM (dM (.bool true)))))))))
def f_law : Fn := runF 1 1 12 g_law
end
end Lawk10
namespace Lawk10
open PySem PySem.Spec L2 Z
def topS (i : Nat) : Stmt := PySem.Challenge.pw_unsaidways_k10_refusals.main.body.getD i (.Pass ⟨0, 0, 0, 0⟩)
/-- what the module's names hold -/
structure Nm (K : PySem.W.Frag) (mg : Str → Option Value) : Prop where
  m_enumerate : mg "enumerate" = none
  m_isinstance : mg "isinstance" = none
  m_len : mg "len" = none
  m_range : mg "range" = none
  m_zip : mg "zip" = none
  is_NoRow : Isx K mg ["NoRow"] [("BadText", false), ("NoBook", false), ("NoErrand", false), ("NoWorld", false), ("NoWay", false), ("TooMany", false), ("NoRow", true)]
  is_TooMany : Isx K mg ["TooMany"] [("BadText", false), ("NoBook", false), ("NoErrand", false), ("NoWorld", false), ("NoWay", false), ("TooMany", true), ("NoRow", false)]
  is_NoWay : Isx K mg ["NoWay"] [("BadText", false), ("NoBook", false), ("NoErrand", false), ("NoWorld", false), ("NoWay", true), ("TooMany", false), ("NoRow", false)]
  is_NoWorld : Isx K mg ["NoWorld"] [("BadText", false), ("NoBook", false), ("NoErrand", false), ("NoWorld", true), ("NoWay", false), ("TooMany", false), ("NoRow", false)]
  is_NoErrand : Isx K mg ["NoErrand"] [("BadText", false), ("NoBook", false), ("NoErrand", true), ("NoWorld", false), ("NoWay", false), ("TooMany", false), ("NoRow", false)]
  is_NoBook : Isx K mg ["NoBook"] [("BadText", false), ("NoBook", true), ("NoErrand", false), ("NoWorld", false), ("NoWay", false), ("TooMany", false), ("NoRow", false)]
  is_BadText : Isx K mg ["BadText"] [("BadText", true), ("NoBook", false), ("NoErrand", false), ("NoWorld", false), ("NoWay", false), ("TooMany", false), ("NoRow", false)]
  hd_WayError : Hnd K mg "WayError" ["BadText", "NoBook", "NoErrand", "NoWorld", "NoWay", "TooMany", "NoRow"]
  xp_NoRow : XPln K mg "NoRow"
  xp_NoWay : XPln K mg "NoWay"
  xf_most : Xfs K mg "most" ["TooMany"]
  xf_word : Xfs K mg "word" ["NoBook", "NoWorld"]
  xf_name : Xfs K mg "name" ["NoErrand"]
  xf_at : Xfs K mg "at" ["BadText"]
  is_ValueError : Isx K mg ["ValueError"] [("BadText", true), ("NoBook", true), ("NoErrand", true), ("NoWorld", true), ("NoWay", true), ("TooMany", true), ("NoRow", true)]
  is_WayError : Isx K mg ["WayError"] [("BadText", true), ("NoBook", true), ("NoErrand", true), ("NoWorld", true), ("NoWay", true), ("TooMany", true), ("NoRow", true)]
  xb_WayError : XBase K mg "WayError"
theorem sc_BadText_init : FnScope ["self", "at"] ["self", "at"] (defScope (inClass (topS 2) 0)) := ⟨rfl, rfl, rfl, by decide +kernel, rfl, by decide +kernel, by decide +kernel⟩
theorem ok_BadText_init {P : Program} {w : World} {K : PySem.W.Frag} {mg : Str → Option Value} {base : Heap} (B : Nm K mg) {a : Addr} {fd : FuncData} (F : Fun K "__init__" "BadText.__init__" (inClass (topS 2) 0) a fd) : FnOk P w K mg base (L2.CX P w) 1 a fd ["self", "at"] (spI K "at") := by
  obtain ⟨CB, mc, hm, rd, vV⟩ := B.xb_WayError.ex
  exact initRule F sc_BadText_init rfl fun cdv A outer s H E e C v T hno => ⟨_, pss_cons (ps_expr (pe_beinit (by rfl) hm rd vV (pa_cons (pv 0 rfl (by first | exact Or.inl rfl | exact Or.inr (Or.inl rfl) | exact Or.inr (Or.inr rfl)) (by decide) (by decide)) (pa_cons (pv 1 rfl (by first | exact Or.inl rfl | exact Or.inr (Or.inl rfl) | exact Or.inr (Or.inr rfl)) (by decide) (by decide)) pa_nil)))) (pss_one (ps_ost (pv 0 rfl (by first | exact Or.inl rfl | exact Or.inr (Or.inl rfl) | exact Or.inr (Or.inr rfl)) (by decide) (by decide)) (pv 1 rfl (by first | exact Or.inl rfl | exact Or.inr (Or.inl rfl) | exact Or.inr (Or.inr rfl)) (by decide) (by decide)))),
    fun D σ h0 h1 ha q => ⟨.ref e, h0, v, h1, e, C, [v], rfl, by simp, T, ha, v, h1, .ref e, h0, e, C, rfl, T, hno, .inl ⟨ha, q⟩⟩⟩
theorem sc_NoBook_init : FnScope ["self", "word"] ["self", "word"] (defScope (inClass (topS 3) 0)) := ⟨rfl, rfl, rfl, by decide +kernel, rfl, by decide +kernel, by decide +kernel⟩
theorem ok_NoBook_init {P : Program} {w : World} {K : PySem.W.Frag} {mg : Str → Option Value} {base : Heap} (B : Nm K mg) {a : Addr} {fd : FuncData} (F : Fun K "__init__" "NoBook.__init__" (inClass (topS 3) 0) a fd) : FnOk P w K mg base (L2.CX P w) 1 a fd ["self", "word"] (spI K "word") := by
  obtain ⟨CB, mc, hm, rd, vV⟩ := B.xb_WayError.ex
  exact initRule F sc_NoBook_init rfl fun cdv A outer s H E e C v T hno => ⟨_, pss_cons (ps_expr (pe_beinit (by rfl) hm rd vV (pa_cons (pv 0 rfl (by first | exact Or.inl rfl | exact Or.inr (Or.inl rfl) | exact Or.inr (Or.inr rfl)) (by decide) (by decide)) (pa_cons (pv 1 rfl (by first | exact Or.inl rfl | exact Or.inr (Or.inl rfl) | exact Or.inr (Or.inr rfl)) (by decide) (by decide)) pa_nil)))) (pss_one (ps_ost (pv 0 rfl (by first | exact Or.inl rfl | exact Or.inr (Or.inl rfl) | exact Or.inr (Or.inr rfl)) (by decide) (by decide)) (pv 1 rfl (by first | exact Or.inl rfl | exact Or.inr (Or.inl rfl) | exact Or.inr (Or.inr rfl)) (by decide) (by decide)))),
    fun D σ h0 h1 ha q => ⟨.ref e, h0, v, h1, e, C, [v], rfl, by simp, T, ha, v, h1, .ref e, h0, e, C, rfl, T, hno, .inl ⟨ha, q⟩⟩⟩
theorem sc_NoErrand_init : FnScope ["self", "name"] ["self", "name"] (defScope (inClass (topS 4) 0)) := ⟨rfl, rfl, rfl, by decide +kernel, rfl, by decide +kernel, by decide +kernel⟩
theorem ok_NoErrand_init {P : Program} {w : World} {K : PySem.W.Frag} {mg : Str → Option Value} {base : Heap} (B : Nm K mg) {a : Addr} {fd : FuncData} (F : Fun K "__init__" "NoErrand.__init__" (inClass (topS 4) 0) a fd) : FnOk P w K mg base (L2.CX P w) 1 a fd ["self", "name"] (spI K "name") := by
  obtain ⟨CB, mc, hm, rd, vV⟩ := B.xb_WayError.ex
  exact initRule F sc_NoErrand_init rfl fun cdv A outer s H E e C v T hno => ⟨_, pss_cons (ps_expr (pe_beinit (by rfl) hm rd vV (pa_cons (pv 0 rfl (by first | exact Or.inl rfl | exact Or.inr (Or.inl rfl) | exact Or.inr (Or.inr rfl)) (by decide) (by decide)) (pa_cons (pv 1 rfl (by first | exact Or.inl rfl | exact Or.inr (Or.inl rfl) | exact Or.inr (Or.inr rfl)) (by decide) (by decide)) pa_nil)))) (pss_one (ps_ost (pv 0 rfl (by first | exact Or.inl rfl | exact Or.inr (Or.inl rfl) | exact Or.inr (Or.inr rfl)) (by decide) (by decide)) (pv 1 rfl (by first | exact Or.inl rfl | exact Or.inr (Or.inl rfl) | exact Or.inr (Or.inr rfl)) (by decide) (by decide)))),
    fun D σ h0 h1 ha q => ⟨.ref e, h0, v, h1, e, C, [v], rfl, by simp, T, ha, v, h1, .ref e, h0, e, C, rfl, T, hno, .inl ⟨ha, q⟩⟩⟩
theorem sc_NoWorld_init : FnScope ["self", "word"] ["self", "word"] (defScope (inClass (topS 5) 0)) := ⟨rfl, rfl, rfl, by decide +kernel, rfl, by decide +kernel, by decide +kernel⟩
theorem ok_NoWorld_init {P : Program} {w : World} {K : PySem.W.Frag} {mg : Str → Option Value} {base : Heap} (B : Nm K mg) {a : Addr} {fd : FuncData} (F : Fun K "__init__" "NoWorld.__init__" (inClass (topS 5) 0) a fd) : FnOk P w K mg base (L2.CX P w) 1 a fd ["self", "word"] (spI K "word") := by
  obtain ⟨CB, mc, hm, rd, vV⟩ := B.xb_WayError.ex
  exact initRule F sc_NoWorld_init rfl fun cdv A outer s H E e C v T hno => ⟨_, pss_cons (ps_expr (pe_beinit (by rfl) hm rd vV (pa_cons (pv 0 rfl (by first | exact Or.inl rfl | exact Or.inr (Or.inl rfl) | exact Or.inr (Or.inr rfl)) (by decide) (by decide)) (pa_cons (pv 1 rfl (by first | exact Or.inl rfl | exact Or.inr (Or.inl rfl) | exact Or.inr (Or.inr rfl)) (by decide) (by decide)) pa_nil)))) (pss_one (ps_ost (pv 0 rfl (by first | exact Or.inl rfl | exact Or.inr (Or.inl rfl) | exact Or.inr (Or.inr rfl)) (by decide) (by decide)) (pv 1 rfl (by first | exact Or.inl rfl | exact Or.inr (Or.inl rfl) | exact Or.inr (Or.inr rfl)) (by decide) (by decide)))),
    fun D σ h0 h1 ha q => ⟨.ref e, h0, v, h1, e, C, [v], rfl, by simp, T, ha, v, h1, .ref e, h0, e, C, rfl, T, hno, .inl ⟨ha, q⟩⟩⟩
theorem sc_TooMany_init : FnScope ["self", "most"] ["self", "most"] (defScope (inClass (topS 7) 0)) := ⟨rfl, rfl, rfl, by decide +kernel, rfl, by decide +kernel, by decide +kernel⟩
theorem ok_TooMany_init {P : Program} {w : World} {K : PySem.W.Frag} {mg : Str → Option Value} {base : Heap} (B : Nm K mg) {a : Addr} {fd : FuncData} (F : Fun K "__init__" "TooMany.__init__" (inClass (topS 7) 0) a fd) : FnOk P w K mg base (L2.CX P w) 1 a fd ["self", "most"] (spI K "most") := by
  obtain ⟨CB, mc, hm, rd, vV⟩ := B.xb_WayError.ex
  exact initRule F sc_TooMany_init rfl fun cdv A outer s H E e C v T hno => ⟨_, pss_cons (ps_expr (pe_beinit (by rfl) hm rd vV (pa_cons (pv 0 rfl (by first | exact Or.inl rfl | exact Or.inr (Or.inl rfl) | exact Or.inr (Or.inr rfl)) (by decide) (by decide)) (pa_cons (pv 1 rfl (by first | exact Or.inl rfl | exact Or.inr (Or.inl rfl) | exact Or.inr (Or.inr rfl)) (by decide) (by decide)) pa_nil)))) (pss_one (ps_ost (pv 0 rfl (by first | exact Or.inl rfl | exact Or.inr (Or.inl rfl) | exact Or.inr (Or.inr rfl)) (by decide) (by decide)) (pv 1 rfl (by first | exact Or.inl rfl | exact Or.inr (Or.inl rfl) | exact Or.inr (Or.inr rfl)) (by decide) (by decide)))),
    fun D σ h0 h1 ha q => ⟨.ref e, h0, v, h1, e, C, [v], rfl, by simp, T, ha, v, h1, .ref e, h0, e, C, rfl, T, hno, .inl ⟨ha, q⟩⟩⟩
theorem sc_law_box : FnScope ["_law_script", "_law_k", "_law_cell", "_law_seed"] ["_law_script", "_law_k"] (defScope (topS 10)) := ⟨rfl, rfl, rfl, by decide +kernel, rfl, by decide +kernel, by decide +kernel⟩
theorem ok_law_box {P : Program} {w : World} {K : PySem.W.Frag} {mg : Str → Option Value} {base : Heap} (B : Nm K mg) {a : Addr} {fd : FuncData} (F : Fun K "_law_box" "_law_box" (topS 10) a fd) :
    FnG P w K mg base (L2.CX P w) 1 a fd ["_law_script", "_law_k"] (spF K mg 2 G.f_law_box) :=
  fnRule 2 F sc_law_box (by decide) fun cdv A outer s H E c =>
    (ess_cons (es_set 2 (by decide) c.nd rfl (by first | exact Or.inl rfl | exact Or.inr rfl) (ev_op op_add4 pr_add (eas_p (ev_op op_mul pr_mul (eas_p ev_int.p (eas_p (ep_pk 1) eas_nil))).p (eas_p ev_int.p eas_nil))))
    (ess_cons (es_if (et_cmp op_lt pr_lt (eas_p (ep_pk 1) (eas_p (ev_bi call_len pr_len B.m_len boot_len_ (eas_p (ep_pk 0) eas_nil)).p eas_nil)) (nomark _)) (ess_one (es_set 2 (by decide) c.nd rfl (by first | exact Or.inl rfl | exact Or.inr rfl) (ev_ix ix_seq pr_ix (eas_p (ep_pk 0) (eas_p (ep_pk 1) eas_nil))))) (ess_one (es_if (et_cmp op_gt pr_gt (eas_p (ev_bi call_len pr_len B.m_len boot_len_ (eas_p (ep_pk 0) eas_nil)).p (eas_p ev_int.p eas_nil)) (nomark _)) (ess_one (es_set 2 (by decide) c.nd rfl (by first | exact Or.inl rfl | exact Or.inr rfl) (ev_op op_add4 pr_add (eas_p (ep_pk 2) (eas_p (ev_op op_mul pr_mul (eas_p (ev_op op_mod pr_mod (eas_p (ev_ix ix_seq pr_ix (eas_p (ep_pk 0) (eas_p (ev_op op_mod pr_mod (eas_p (ep_pk 1) (eas_p (ev_bi call_len pr_len B.m_len boot_len_ (eas_p (ep_pk 0) eas_nil)).p eas_nil))).p eas_nil))).p (eas_p ev_int.p eas_nil))).p (eas_p ev_int.p eas_nil))).p eas_nil))))) ess_nil)))
    (ess_cons (es_set 3 (by decide) c.nd rfl (by first | exact Or.inl rfl | exact Or.inr rfl) (ev_op op_add4 pr_add (eas_p (ev_op op_mod pr_mod (eas_p (ev_op op_add4 pr_add (eas_p (ev_op op_mul pr_mul (eas_p (ev_op op_mod pr_mod (eas_p (ep_pk 2) (eas_p ev_int.p eas_nil))).p (eas_p ev_int.p eas_nil))).p (eas_p (ev_op op_mul pr_mul (eas_p ev_int.p (eas_p (ep_pk 1) eas_nil))).p eas_nil))).p (eas_p ev_int.p eas_nil))).p (eas_p ev_int.p eas_nil))))
    (ess_cons (es_if (et_cmp op_lt pr_lt (eas_p (ep_pk 2) (eas_p (ev_op op_pow pr_pow (eas_p ev_int.p (eas_p ev_int.p eas_nil))).p eas_nil)) (nomark _)) (ess_one (es_set 2 (by decide) c.nd rfl (by first | exact Or.inl rfl | exact Or.inr rfl) ev_int)) ess_nil)
    (ess_one (es_ret (ev_lst (ees_cons (ev_fz 2) (ees_cons (ev_fz 3) ees_nil)))))))))
theorem sc_law_take : FnScope ["_law_box_here", "_law_many", "_law_digit", "_law_one"] ["_law_box_here", "_law_many"] (defScope (topS 11)) := ⟨rfl, rfl, rfl, by decide +kernel, rfl, by decide +kernel, by decide +kernel⟩
theorem ok_law_take {P : Program} {w : World} {K : PySem.W.Frag} {mg : Str → Option Value} {base : Heap} (B : Nm K mg) {a : Addr} {fd : FuncData} (F : Fun K "_law_take" "_law_take" (topS 11) a fd) :
    FnG P w K mg base (L2.CX P w) 1 a fd ["_law_box_here", "_law_many"] (spF K mg 2 G.f_law_take) :=
  fnRule 2 F sc_law_take (by decide) fun cdv A outer s H E c =>
    (ess_cons (es_if (et_cmp op_gt pr_gt (eas_p (ev_ix ix_seq pr_ix (eas_p (ep_pk 0) (eas_p ev_int.p eas_nil))).p (eas_p ev_int.p eas_nil)) (nomark _)) (ess_cons (es_set 2 (by decide) c.nd rfl (by first | exact Or.inl rfl | exact Or.inr rfl) (ev_op op_mod pr_mod (eas_p (ev_ix ix_seq pr_ix (eas_p (ep_pk 0) (eas_p ev_int.p eas_nil))).p (eas_p (ep_pk 1) eas_nil))))
    (ess_cons (es_asg (ev_op op_fdivW pr_div (eas_p (ev_ix ix_seq pr_ix (eas_p (ep_pk 0) (eas_p ev_int.p eas_nil))).p (eas_p (ep_pk 1) eas_nil))) (eg_ix 0 ev_int))
    (ess_one (es_ret (ev_mv 2))))) ess_nil)
    (ess_cons (es_set 3 (by decide) c.nd rfl (by first | exact Or.inl rfl | exact Or.inr rfl) (ev_op op_mod pr_mod (eas_p (ev_op op_mul pr_mul (eas_p (ev_ix ix_seq pr_ix (eas_p (ep_pk 0) (eas_p ev_int.p eas_nil))).p (eas_p ev_int.p eas_nil))).p (eas_p ev_int.p eas_nil))))
    (ess_cons (es_asg (ev_op op_add4 pr_add (eas_p (ev_op op_mod pr_mod (eas_p (ev_op op_add4 pr_add (eas_p (ev_op op_mul pr_mul (eas_p (ep_pk 3) (eas_p ev_int.p eas_nil))).p (eas_p ev_int.p eas_nil))).p (eas_p ev_int.p eas_nil))).p (eas_p ev_int.p eas_nil))) (eg_ix 0 ev_int))
    (ess_one (es_ret (ev_op op_mod pr_mod (eas_p (ev_op op_fdivW pr_div (eas_p (ev_op op_add4 pr_add (eas_p (ev_op op_mul pr_mul (eas_p (ep_pk 3) (eas_p ev_int.p eas_nil))).p (eas_p (ev_ix ix_seq pr_ix (eas_p (ep_pk 0) (eas_p ev_int.p eas_nil))).p eas_nil))).p (eas_p ev_int.p eas_nil))).p (eas_p (ep_pk 1) eas_nil))))))))
theorem sc_law_taken : FnScope ["_law_some"] [] (defScope (topS 12)) := ⟨rfl, rfl, rfl, by decide +kernel, rfl, by decide +kernel, by decide +kernel⟩
theorem ok_law_taken {P : Program} {w : World} {K : PySem.W.Frag} {mg : Str → Option Value} {base : Heap} (B : Nm K mg) {a : Addr} {fd : FuncData} (F : Fun K "_law_taken" "_law_taken" (topS 12) a fd) :
    FnG P w K mg base (L2.CX P w) 1 a fd [] (spF K mg 0 G.f_law_taken) :=
  fnRule 0 F sc_law_taken (by decide) fun cdv A outer s H E c =>
    (ess_cons (es_set 0 (by decide) c.nd rfl (by first | exact Or.inl rfl | exact Or.inr rfl) (ev_lst (ees_cons ev_str (ees_cons ev_str (ees_cons ev_str (ees_cons ev_str (ees_cons ev_str (ees_cons ev_str (ees_cons ev_str (ees_cons ev_str (ees_cons ev_str (ees_cons ev_str (ees_cons ev_str (ees_cons ev_str (ees_cons ev_str ees_nil)))))))))))))))
    (ess_one (es_ret (ev_op op_add4 pr_add (eas_p (ep_pk 0) (eas_p (ev_lst (ees_cons ev_str (ees_cons ev_str (ees_cons ev_str (ees_cons ev_str (ees_cons ev_str (ees_cons ev_str ees_nil))))))).p eas_nil))))))
theorem sc_law_name : FnScope ["_law_box_here", "_law_letters", "_law_name_here", "_law_word", "_law_at", "_law_some", "_law_k"] ["_law_box_here"] (defScope (topS 13)) := ⟨rfl, rfl, rfl, by decide +kernel, rfl, by decide +kernel, by decide +kernel⟩
theorem ok_law_name {P : Program} {w : World} {K : PySem.W.Frag} {mg : Str → Option Value} {base : Heap} (B : Nm K mg) (C_law_taken : Callee P w K mg base "_law_taken" 1 0 [] G.f_law_taken) (C_law_take : Callee P w K mg base "_law_take" 1 2 [] G.f_law_take) {a : Addr} {fd : FuncData} (F : Fun K "_law_name" "_law_name" (topS 13) a fd) :
    FnG P w K mg base (L2.CX P w) 2 a fd ["_law_box_here"] (spF K mg 1 G.f_law_name) :=
  fnRule 1 F sc_law_name (by decide) fun cdv A outer s H E c =>
    (ess_cons (es_set 1 (by decide) c.nd rfl (by first | exact Or.inl rfl | exact Or.inr rfl) ev_str)
    (ess_cons (es_set 2 (by decide) c.nd rfl (by first | exact Or.inl rfl | exact Or.inr rfl) (ev_join ev_str (ev_comp c (own := [("_law_k", 6)]) (ei_range1 (ees_cons (ev_op op_add4 pr_add (eas_e ev_int (eas_p (ev_call c C_law_take (by omega) (by rfl) (eu_sl 0 (eu_val ev_int eu_nil))).p eas_nil))) ees_nil) (by rfl) B.m_range) (blkOk_by (by kernel_rfl)) (fun bi => (eb_name 6 (by decide) (c.blk _ bi).nd rfl (by first | exact Or.inl rfl | exact Or.inr rfl))) (fun bi => ec_yes) (fun bi => (ev_ix ix_seq pr_ix (eas_e (ev_fz 1) (eas_p (ev_call (c.blk _ bi) C_law_take (by omega) (by rfl) (eu_sl 0 (eu_val ev_int eu_nil))).p eas_nil))))).1.p))
    (ess_cons (es_if (et_cmp (op_eq2 c.hr.units) pr_eq (eas_p (ev_call c C_law_take (by omega) (by rfl) (eu_sl 0 (eu_val ev_int eu_nil))).p (eas_p ev_int.p eas_nil)) (nomark _)) (ess_cons (es_set 3 (by decide) c.nd rfl (by first | exact Or.inl rfl | exact Or.inr rfl) (ev_ix ix_seq pr_ix (eas_e (ev_call0 c C_law_taken (by omega) (by rfl)) (eas_p (ev_call c C_law_take (by omega) (by rfl) (eu_sl 0 (eu_val ev_int eu_nil))).p eas_nil))))
    (ess_cons (es_set 4 (by decide) c.nd rfl (by first | exact Or.inl rfl | exact Or.inr rfl) (ev_call c C_law_take (by omega) (by rfl) (eu_sl 0 (eu_val (ev_op op_add4 pr_add (eas_p (ev_bi call_len pr_len B.m_len boot_len_ (eas_p (ep_pk 3) eas_nil)).p (eas_p ev_int.p eas_nil))) eu_nil))))
    (ess_cons (es_set 5 (by decide) c.nd rfl (by first | exact Or.inl rfl | exact Or.inr rfl) (ev_lst (ees_cons (ev_op op_add4 pr_add (eas_p (ev_slHi (eas_p (ep_pk 3) (eas_p (ep_pk 4) eas_nil))).p (eas_p (ev_slLo (eas_p (ep_pk 3) (eas_p (ev_op op_add4 pr_add (eas_p (ep_pk 4) (eas_p ev_int.p eas_nil))).p eas_nil))).p eas_nil))) (ees_cons (ev_op op_add4 pr_add (eas_p (ev_op op_add4 pr_add (eas_p (ev_slHi (eas_p (ep_pk 3) (eas_p (ep_pk 4) eas_nil))).p (eas_p (ev_ix ix_seq pr_ix (eas_p (ep_pk 2) (eas_p ev_int.p eas_nil))).p eas_nil))).p (eas_p (ev_slLo (eas_p (ep_pk 3) (eas_p (ep_pk 4) eas_nil))).p eas_nil))) (ees_cons (ev_op op_add4 pr_add (eas_p (ev_op op_add4 pr_add (eas_p (ev_slHi (eas_p (ep_pk 3) (eas_p (ep_pk 4) eas_nil))).p (eas_p (ev_ix ix_seq pr_ix (eas_p (ep_pk 2) (eas_p ev_int.p eas_nil))).p eas_nil))).p (eas_p (ev_slLo (eas_p (ep_pk 3) (eas_p (ev_op op_add4 pr_add (eas_p (ep_pk 4) (eas_p ev_int.p eas_nil))).p eas_nil))).p eas_nil))) ees_nil)))))
    (ess_one (es_set 2 (by decide) c.nd rfl (by first | exact Or.inl rfl | exact Or.inr rfl) (ev_slHi (eas_p (ev_ix ix_seq pr_ix (eas_e (ev_fz 5) (eas_p (ev_call c C_law_take (by omega) (by rfl) (eu_sl 0 (eu_val ev_int eu_nil))).p eas_nil))).p (eas_p ev_int.p eas_nil)))))))) ess_nil)
    (ess_cons (es_if (et_cmp (op_eq2 c.hr.units) pr_eq (eas_p (ev_call c C_law_take (by omega) (by rfl) (eu_sl 0 (eu_val ev_int eu_nil))).p (eas_p ev_int.p eas_nil)) (nomark _)) (ess_one (es_set 2 (by decide) c.nd rfl (by first | exact Or.inl rfl | exact Or.inr rfl) (ev_ix ix_seq pr_ix (eas_e (ev_lst (ees_cons ev_str (ees_cons ev_str ees_nil))) (eas_p (ev_call c C_law_take (by omega) (by rfl) (eu_sl 0 (eu_val ev_int eu_nil))).p eas_nil))))) ess_nil)
    (ess_cons (es_if (ew_or (et_cmp (op_eq2 c.hr.units) pr_eq (eas_p (ep_pk 2) (eas_p ev_str.p eas_nil)) (nomark _)) (ew_or1 (et_cmp op_in2 pr_in (eas_e (ev_fz 2) (eas_p (ev_call0 c C_law_taken (by omega) (by rfl)).p eas_nil)) rfl))).t (ess_one (es_set 2 (by decide) c.nd rfl (by first | exact Or.inl rfl | exact Or.inr rfl) ev_str)) ess_nil)
    (ess_one (es_ret (ev_mv 2))))))))
theorem sc_law_kinds : FnScope ["_law_e"] ["_law_e"] (defScope (topS 14)) := ⟨rfl, rfl, rfl, by decide +kernel, rfl, by decide +kernel, by decide +kernel⟩
theorem ok_law_kinds {P : Program} {w : World} {K : PySem.W.Frag} {mg : Str → Option Value} {base : Heap} (B : Nm K mg) {a : Addr} {fd : FuncData} (F : Fun K "_law_kinds" "_law_kinds" (topS 14) a fd) :
    FnG P w K mg base (L2.CX P w) 1 a fd ["_law_e"] (spF K mg 1 f_law_kinds) :=
  fnRule 1 F sc_law_kinds (by decide) fun cdv A outer s H E c =>
    (ess_one (es_ret (ev_lst (ees_cons (ev_isx1 (ep_un (ep_pk 0)) B.m_isinstance B.is_BadText) (ees_cons (ev_isx1 (ep_un (ep_pk 0)) B.m_isinstance B.is_NoBook) (ees_cons (ev_isx1 (ep_un (ep_pk 0)) B.m_isinstance B.is_NoErrand) (ees_cons (ev_isx1 (ep_un (ep_pk 0)) B.m_isinstance B.is_NoWorld) (ees_cons (ev_isx1 (ep_un (ep_pk 0)) B.m_isinstance B.is_NoWay) (ees_cons (ev_isx1 (ep_un (ep_pk 0)) B.m_isinstance B.is_TooMany) (ees_cons (ev_isx1 (ep_un (ep_pk 0)) B.m_isinstance B.is_NoRow) ees_nil))))))))))
theorem sc_law_caught : FnScope ["_law_k", "_law_number", "_law_name_here", "_law_word", "_law_found", "_law_e"] ["_law_k", "_law_number", "_law_name_here", "_law_word"] (defScope (topS 15)) := ⟨rfl, rfl, rfl, by decide +kernel, rfl, by decide +kernel, by decide +kernel⟩
theorem ok_law_caught {P : Program} {w : World} {K : PySem.W.Frag} {mg : Str → Option Value} {base : Heap} (B : Nm K mg) (C_TooMany_init : XMak P w K mg base "TooMany" "most") (C_NoWorld_init : XMak P w K mg base "NoWorld" "word") (C_NoErrand_init : XMak P w K mg base "NoErrand" "name") (C_NoBook_init : XMak P w K mg base "NoBook" "word") (C_BadText_init : XMak P w K mg base "BadText" "at") {a : Addr} {fd : FuncData} (F : Fun K "_law_caught" "_law_caught" (topS 15) a fd) :
    FnG P w K mg base (L2.CX P w) 3 a fd ["_law_k", "_law_number", "_law_name_here", "_law_word"] (spF K mg 4 f_law_caught) :=
  fnRule 4 F sc_law_caught (by decide) fun cdv A outer s H E c =>
    (ess_cons (es_set 4 (by decide) c.nd rfl (by first | exact Or.inl rfl | exact Or.inr rfl) ev_non)
    (ess_cons (es_tryH 5 c (by decide) B.hd_WayError (fun _ _ _ cT => (ess_cons (es_if (et_cmp (op_eq2 cT.hr.units) pr_eq (eas_p (ep_pk 0) (eas_p ev_int.p eas_nil)) (nomark _)) (ess_one (es_raise1 cT C_BadText_init (by omega) (ev_fz 1))) ess_nil)
    (ess_cons (es_if (et_cmp (op_eq2 cT.hr.units) pr_eq (eas_p (ep_pk 0) (eas_p ev_int.p eas_nil)) (nomark _)) (ess_one (es_raise1 cT C_NoBook_init (by omega) (ev_fz 3))) ess_nil)
    (ess_cons (es_if (et_cmp (op_eq2 cT.hr.units) pr_eq (eas_p (ep_pk 0) (eas_p ev_int.p eas_nil)) (nomark _)) (ess_one (es_raise1 cT C_NoErrand_init (by omega) (ev_fz 2))) ess_nil)
    (ess_cons (es_if (et_cmp (op_eq2 cT.hr.units) pr_eq (eas_p (ep_pk 0) (eas_p ev_int.p eas_nil)) (nomark _)) (ess_one (es_raise1 cT C_NoWorld_init (by omega) (ev_fz 3))) ess_nil)
    (ess_cons (es_if (et_cmp (op_eq2 cT.hr.units) pr_eq (eas_p (ep_pk 0) (eas_p ev_int.p eas_nil)) (nomark _)) (ess_one (es_raise0 cT B.xp_NoWay)) ess_nil)
    (ess_cons (es_if (et_cmp (op_eq2 cT.hr.units) pr_eq (eas_p (ep_pk 0) (eas_p ev_int.p eas_nil)) (nomark _)) (ess_one (es_raise1 cT C_TooMany_init (by omega) (ev_op op_add4 pr_add (eas_p (ep_pk 1) (eas_p ev_int.p eas_nil))))) ess_nil)
    (ess_one (es_raise0 cT B.xp_NoRow))))))))) (fun _ _ cU => (ess_one (es_set 4 (by decide) cU.nd rfl (by first | exact Or.inl rfl | exact Or.inr rfl) (ev_cp (ep_pk 5))))))
    (ess_one (es_ret (ev_mv 4)))))
theorem sc_law_fields : FnScope ["_law_some"] ["_law_some"] (defScope (topS 16)) := ⟨rfl, rfl, rfl, by decide +kernel, rfl, by decide +kernel, by decide +kernel⟩
theorem ok_law_fields {P : Program} {w : World} {K : PySem.W.Frag} {mg : Str → Option Value} {base : Heap} (B : Nm K mg) {a : Addr} {fd : FuncData} (F : Fun K "_law_fields" "_law_fields" (topS 16) a fd) :
    FnG P w K mg base (L2.CX P w) 1 a fd ["_law_some"] (spF K mg 1 f_law_fields) :=
  fnRule 1 F sc_law_fields (by decide) fun cdv A outer s H E c =>
    (ess_one (es_ret (ev_tup (ees_cons (ev_xfs (ep_un (ep_el (eas_p (ep_pk 0) (eas_p ev_int.p eas_nil)))) B.xf_at) (ees_cons (ev_xfs (ep_un (ep_el (eas_p (ep_pk 0) (eas_p ev_int.p eas_nil)))) B.xf_word) (ees_cons (ev_xfs (ep_un (ep_el (eas_p (ep_pk 0) (eas_p ev_int.p eas_nil)))) B.xf_name) (ees_cons (ev_xfs (ep_un (ep_el (eas_p (ep_pk 0) (eas_p ev_int.p eas_nil)))) B.xf_word) (ees_cons (ev_xfs (ep_un (ep_el (eas_p (ep_pk 0) (eas_p ev_int.p eas_nil)))) B.xf_most) ees_nil))))))))
theorem sc_law : FnScope ["_law_script", "_law_box_here", "_law_both", "_law_due", "_law_k", "_law_number", "_law_name_here", "_law_word", "_law_some", "_law_fields_here", "_law_e", "_law_j"] ["_law_script"] (defScope (topS 17)) := ⟨rfl, rfl, rfl, by decide +kernel, rfl, by decide +kernel, by decide +kernel⟩
theorem ok_law {P : Program} {w : World} {K : PySem.W.Frag} {mg : Str → Option Value} {base : Heap} (B : Nm K mg) (C_law_kinds : Callee P w K mg base "_law_kinds" 1 1 [] f_law_kinds) (C_law_fields : Callee P w K mg base "_law_fields" 1 1 [] f_law_fields) (C_law_caught : Callee P w K mg base "_law_caught" 3 4 [] f_law_caught) (C_law_take : Callee P w K mg base "_law_take" 1 2 [] G.f_law_take) (C_law_name : Callee P w K mg base "_law_name" 2 1 [] G.f_law_name) (C_law_box : Callee P w K mg base "_law_box" 1 2 [] G.f_law_box) {a : Addr} {fd : FuncData} (F : Fun K "law" "law" (topS 17) a fd) :
    FnG P w K mg base (L2.CX P w) 4 a fd ["_law_script"] (spF K mg 1 f_law) :=
  fnRule 1 F sc_law (by decide) fun cdv A outer s H E c =>
    (ess_cons (es_set 1 (by decide) c.nd rfl (by first | exact Or.inl rfl | exact Or.inr rfl) (ev_call c C_law_box (by omega) (by rfl) (eu_sl 0 (eu_val ev_int eu_nil))))
    (ess_cons (es_set 2 (by decide) c.nd rfl (by first | exact Or.inl rfl | exact Or.inr rfl) (ev_lst ees_nil))
    (ess_cons (es_set 3 (by decide) c.nd rfl (by first | exact Or.inl rfl | exact Or.inr rfl) (ev_lst ees_nil))
    (ess_cons (es_for c (ei_range1 (ees_cons ev_int ees_nil) (by rfl) B.m_range) (eg_name 4 (by decide) c.nd rfl (by first | exact Or.inl rfl | exact Or.inr rfl)) (ess_cons (es_set 5 (by decide) c.nd rfl (by first | exact Or.inl rfl | exact Or.inr rfl) (ev_ix ix_seq pr_ix (eas_e (ev_lst (ees_cons (ev_call c C_law_take (by omega) (by rfl) (eu_sl 1 (eu_val ev_int eu_nil))) (ees_cons (ev_call c C_law_take (by omega) (by rfl) (eu_sl 1 (eu_val (ev_op op_pow pr_pow (eas_p ev_int.p (eas_p ev_int.p eas_nil))) eu_nil))) ees_nil))) (eas_p (ev_call c C_law_take (by omega) (by rfl) (eu_sl 1 (eu_val ev_int eu_nil))).p eas_nil))))
    (ess_cons (es_set 6 (by decide) c.nd rfl (by first | exact Or.inl rfl | exact Or.inr rfl) (ev_call c C_law_name (by omega) (by rfl) (eu_sl 1 eu_nil)))
    (ess_cons (es_set 7 (by decide) c.nd rfl (by first | exact Or.inl rfl | exact Or.inr rfl) (ev_ix ix_seq pr_ix (eas_e (ev_lst (ees_cons ev_str (ees_cons ev_str (ees_cons ev_str (ees_cons ev_str (ees_cons ev_str (ees_cons ev_str ees_nil))))))) (eas_p (ev_call c C_law_take (by omega) (by rfl) (eu_sl 1 (eu_val ev_int eu_nil))).p eas_nil))))
    (ess_cons (es_expr (ev_app 2 (ev_comp c (own := [("_law_j", 11)]) (ei_range1 (ees_cons ev_int ees_nil) (by rfl) B.m_range) (blkOk_by (by kernel_rfl)) (fun bi => (eb_name 11 (by decide) (c.blk _ bi).nd rfl (by first | exact Or.inl rfl | exact Or.inr rfl))) (fun bi => ec_yes) (fun bi => (ev_call (c.blk _ bi) C_law_caught (by omega) (by rfl) (eu_sl 11 (eu_sl 5 (eu_sl 6 (eu_sl 7 eu_nil))))))).1))
    (ess_one (es_expr (ev_app 3 (ev_tup (ees_cons (ev_fz 5) (ees_cons (ev_fz 7) (ees_cons (ev_fz 6) (ees_cons (ev_fz 7) (ees_cons (ev_op op_add4 pr_add (eas_p (ep_pk 5) (eas_p ev_int.p eas_nil))) ees_nil))))))))))))))
    (ess_ghPF 2 [] (ess_cons (es_forO c (ei_zipO (ees_cons (ev_cp (ep_pk 2)) (ees_cons (ev_fz 3) ees_nil)) (by rfl) B.m_zip) (eg_tuo c.calm (ego_cons 8 (by decide) c.nd rfl (by first | exact Or.inl rfl | exact Or.inr rfl) (ego_cons 9 (by decide) c.nd rfl (by first | exact Or.inl rfl | exact Or.inr rfl) ego_nil)) rfl rfl (cgo_cons (cgo_cons cgo_nil))) (ess_cons (es_if (et_cmp (op_ne2 c.hr.units) pr_ne (eas_p (ev_call c C_law_fields (by omega) (by rfl) (eu_sl 8 eu_nil)).p (eas_p (ep_pk 9) eas_nil)) (nomark _)) (ess_one (es_ret ev_bl)) ess_nil)
    (ess_one (es_forO c (ei_enumO (ees_cons (ev_cp (ep_pk 8)) ees_nil) (by rfl) B.m_enumerate) (eg_tuo c.calm (ego_cons 4 (by decide) c.nd rfl (by first | exact Or.inl rfl | exact Or.inr rfl) (ego_cons 10 (by decide) c.nd rfl (by first | exact Or.inl rfl | exact Or.inr rfl) ego_nil)) rfl rfl (cgo_cons (cgo_cons cgo_nil))) (ess_cons (es_if (ew_or (et_cmp (op_ne2 c.hr.units) pr_ne (eas_e (ev_call c C_law_kinds (by omega) (by rfl) (eu_sl 10 eu_nil)) (eas_p (ev_comp c (own := [("_law_j", 11)]) (ei_range1 (ees_cons ev_int ees_nil) (by rfl) B.m_range) (blkOk_by (by kernel_rfl)) (fun bi => (eb_name 11 (by decide) (c.blk _ bi).nd rfl (by first | exact Or.inl rfl | exact Or.inr rfl))) (fun bi => ec_yes) (fun bi => (ev_cmp (op_eq2 (c.blk _ bi).hr.units) pr_eq (eas_p (ep_pk 11) (eas_p (ep_pk 4) eas_nil)) (nomark _)))).1.p eas_nil)) (nomark _)) (ew_or1 (et_not (et_val (ev_isx1 (ep_un (ep_pk 10)) B.m_isinstance B.is_WayError))))).t (ess_one (es_ret ev_bl)) ess_nil)
    (ess_one (es_if (et_not (et_val (ev_isx1 (ep_un (ep_pk 10)) B.m_isinstance B.is_ValueError))) (ess_one (es_ret ev_bl)) ess_nil)))))))
    (ess_one (es_ret ev_bl))))))))
theorem all_ok {P : Program} {w : World} {K : PySem.W.Frag} {mg : Str → Option Value} {fa : Addr} (hfa : mg "law" = some (.ref fa)) (B : Nm K mg) (D_BadText_init : XMakAt K mg "BadText" "BadText.__init__" "at" (inClass (topS 2) 0)) (D_NoBook_init : XMakAt K mg "NoBook" "NoBook.__init__" "word" (inClass (topS 3) 0)) (D_NoErrand_init : XMakAt K mg "NoErrand" "NoErrand.__init__" "name" (inClass (topS 4) 0)) (D_NoWorld_init : XMakAt K mg "NoWorld" "NoWorld.__init__" "word" (inClass (topS 5) 0)) (D_TooMany_init : XMakAt K mg "TooMany" "TooMany.__init__" "most" (inClass (topS 7) 0)) (D_law_box : DefAt K mg "_law_box" (topS 10)) (D_law_take : DefAt K mg "_law_take" (topS 11)) (D_law_taken : DefAt K mg "_law_taken" (topS 12)) (D_law_name : DefAt K mg "_law_name" (topS 13)) (D_law_kinds : DefAt K mg "_law_kinds" (topS 14)) (D_law_caught : DefAt K mg "_law_caught" (topS 15)) (D_law_fields : DefAt K mg "_law_fields" (topS 16)) (D_law : DefAt K mg "law" (topS 17)) :
    ∃ fd : FuncData, (∀ (s : Shared) (u : Value), BindsTo s fd ⟨[u], []⟩ [("_law_script", u)]) ∧ ∀ base : Heap, FnG P w K mg base (L2.CX P w) 4 fa fd ["_law_script"] (spF K mg 1 f_law) := by
  obtain ⟨cc_BadText_init, a_BadText_init, fd_BadText_init, m_BadText_init, T_BadText_init, i_BadText_init, t_BadText_init, n_BadText_init, F_BadText_init⟩ := D_BadText_init.ex
  obtain ⟨cc_NoBook_init, a_NoBook_init, fd_NoBook_init, m_NoBook_init, T_NoBook_init, i_NoBook_init, t_NoBook_init, n_NoBook_init, F_NoBook_init⟩ := D_NoBook_init.ex
  obtain ⟨cc_NoErrand_init, a_NoErrand_init, fd_NoErrand_init, m_NoErrand_init, T_NoErrand_init, i_NoErrand_init, t_NoErrand_init, n_NoErrand_init, F_NoErrand_init⟩ := D_NoErrand_init.ex
  obtain ⟨cc_NoWorld_init, a_NoWorld_init, fd_NoWorld_init, m_NoWorld_init, T_NoWorld_init, i_NoWorld_init, t_NoWorld_init, n_NoWorld_init, F_NoWorld_init⟩ := D_NoWorld_init.ex
  obtain ⟨cc_TooMany_init, a_TooMany_init, fd_TooMany_init, m_TooMany_init, T_TooMany_init, i_TooMany_init, t_TooMany_init, n_TooMany_init, F_TooMany_init⟩ := D_TooMany_init.ex
  obtain ⟨a_law_box, fd_law_box, m_law_box, F_law_box⟩ := D_law_box.ex
  obtain ⟨a_law_take, fd_law_take, m_law_take, F_law_take⟩ := D_law_take.ex
  obtain ⟨a_law_taken, fd_law_taken, m_law_taken, F_law_taken⟩ := D_law_taken.ex
  obtain ⟨a_law_name, fd_law_name, m_law_name, F_law_name⟩ := D_law_name.ex
  obtain ⟨a_law_kinds, fd_law_kinds, m_law_kinds, F_law_kinds⟩ := D_law_kinds.ex
  obtain ⟨a_law_caught, fd_law_caught, m_law_caught, F_law_caught⟩ := D_law_caught.ex
  obtain ⟨a_law_fields, fd_law_fields, m_law_fields, F_law_fields⟩ := D_law_fields.ex
  obtain ⟨a_law, fd_law, m_law, F_law⟩ := D_law.ex
  have b_BadText_init := F_BadText_init.binds (ps := ["self", "at"]) fun _ _ _ _ _ _ us hl => match us, hl with | [_, _], _ => rfl
  have C_BadText_init : ∀ base : Heap, XMak P w K mg base "BadText" "at" := fun base => ⟨cc_BadText_init, a_BadText_init, fd_BadText_init, ["self", "at"], m_BadText_init, T_BadText_init, i_BadText_init, t_BadText_init, n_BadText_init, ok_BadText_init B F_BadText_init, b_BadText_init⟩
  have b_NoBook_init := F_NoBook_init.binds (ps := ["self", "word"]) fun _ _ _ _ _ _ us hl => match us, hl with | [_, _], _ => rfl
  have C_NoBook_init : ∀ base : Heap, XMak P w K mg base "NoBook" "word" := fun base => ⟨cc_NoBook_init, a_NoBook_init, fd_NoBook_init, ["self", "word"], m_NoBook_init, T_NoBook_init, i_NoBook_init, t_NoBook_init, n_NoBook_init, ok_NoBook_init B F_NoBook_init, b_NoBook_init⟩
  have b_NoErrand_init := F_NoErrand_init.binds (ps := ["self", "name"]) fun _ _ _ _ _ _ us hl => match us, hl with | [_, _], _ => rfl
  have C_NoErrand_init : ∀ base : Heap, XMak P w K mg base "NoErrand" "name" := fun base => ⟨cc_NoErrand_init, a_NoErrand_init, fd_NoErrand_init, ["self", "name"], m_NoErrand_init, T_NoErrand_init, i_NoErrand_init, t_NoErrand_init, n_NoErrand_init, ok_NoErrand_init B F_NoErrand_init, b_NoErrand_init⟩
  have b_NoWorld_init := F_NoWorld_init.binds (ps := ["self", "word"]) fun _ _ _ _ _ _ us hl => match us, hl with | [_, _], _ => rfl
  have C_NoWorld_init : ∀ base : Heap, XMak P w K mg base "NoWorld" "word" := fun base => ⟨cc_NoWorld_init, a_NoWorld_init, fd_NoWorld_init, ["self", "word"], m_NoWorld_init, T_NoWorld_init, i_NoWorld_init, t_NoWorld_init, n_NoWorld_init, ok_NoWorld_init B F_NoWorld_init, b_NoWorld_init⟩
  have b_TooMany_init := F_TooMany_init.binds (ps := ["self", "most"]) fun _ _ _ _ _ _ us hl => match us, hl with | [_, _], _ => rfl
  have C_TooMany_init : ∀ base : Heap, XMak P w K mg base "TooMany" "most" := fun base => ⟨cc_TooMany_init, a_TooMany_init, fd_TooMany_init, ["self", "most"], m_TooMany_init, T_TooMany_init, i_TooMany_init, t_TooMany_init, n_TooMany_init, ok_TooMany_init B F_TooMany_init, b_TooMany_init⟩
  have b_law_box := F_law_box.binds (ps := ["_law_script", "_law_k"]) fun _ _ _ _ _ _ us hl => match us, hl with | [_, _], _ => rfl
  have C_law_box : ∀ base : Heap, Callee P w K mg base "_law_box" 1 2 [] G.f_law_box := fun base => ⟨a_law_box, fd_law_box, _, [], [], ok_law_box B F_law_box, m_law_box, F_law_box.kp, b_law_box, .nil, (fun _ => .nil)⟩
  have b_law_take := F_law_take.binds (ps := ["_law_box_here", "_law_many"]) fun _ _ _ _ _ _ us hl => match us, hl with | [_, _], _ => rfl
  have C_law_take : ∀ base : Heap, Callee P w K mg base "_law_take" 1 2 [] G.f_law_take := fun base => ⟨a_law_take, fd_law_take, _, [], [], ok_law_take B F_law_take, m_law_take, F_law_take.kp, b_law_take, .nil, (fun _ => .nil)⟩
  have b_law_taken := F_law_taken.binds (ps := []) fun _ _ _ _ _ _ us hl => match us, hl with | [], _ => rfl
  have C_law_taken : ∀ base : Heap, Callee P w K mg base "_law_taken" 1 0 [] G.f_law_taken := fun base => ⟨a_law_taken, fd_law_taken, _, [], [], ok_law_taken B F_law_taken, m_law_taken, F_law_taken.kp, b_law_taken, .nil, (fun _ => .nil)⟩
  have b_law_name := F_law_name.binds (ps := ["_law_box_here"]) fun _ _ _ _ _ _ us hl => match us, hl with | [_], _ => rfl
  have C_law_name : ∀ base : Heap, Callee P w K mg base "_law_name" 2 1 [] G.f_law_name := fun base => ⟨a_law_name, fd_law_name, _, [], [], ok_law_name B (C_law_taken base) (C_law_take base) F_law_name, m_law_name, F_law_name.kp, b_law_name, .nil, (fun _ => .nil)⟩
  have b_law_kinds := F_law_kinds.binds (ps := ["_law_e"]) fun _ _ _ _ _ _ us hl => match us, hl with | [_], _ => rfl
  have C_law_kinds : ∀ base : Heap, Callee P w K mg base "_law_kinds" 1 1 [] f_law_kinds := fun base => ⟨a_law_kinds, fd_law_kinds, _, [], [], ok_law_kinds B F_law_kinds, m_law_kinds, F_law_kinds.kp, b_law_kinds, .nil, (fun _ => .nil)⟩
  have b_law_caught := F_law_caught.binds (ps := ["_law_k", "_law_number", "_law_name_here", "_law_word"]) fun _ _ _ _ _ _ us hl => match us, hl with | [_, _, _, _], _ => rfl
  have C_law_caught : ∀ base : Heap, Callee P w K mg base "_law_caught" 3 4 [] f_law_caught := fun base => ⟨a_law_caught, fd_law_caught, _, [], [], ok_law_caught B (C_TooMany_init base) (C_NoWorld_init base) (C_NoErrand_init base) (C_NoBook_init base) (C_BadText_init base) F_law_caught, m_law_caught, F_law_caught.kp, b_law_caught, .nil, (fun _ => .nil)⟩
  have b_law_fields := F_law_fields.binds (ps := ["_law_some"]) fun _ _ _ _ _ _ us hl => match us, hl with | [_], _ => rfl
  have C_law_fields : ∀ base : Heap, Callee P w K mg base "_law_fields" 1 1 [] f_law_fields := fun base => ⟨a_law_fields, fd_law_fields, _, [], [], ok_law_fields B F_law_fields, m_law_fields, F_law_fields.kp, b_law_fields, .nil, (fun _ => .nil)⟩
  have ea := hfa.symm.trans m_law
  cases ea
  have hF : ∀ base : Heap, FnG P w K mg base (L2.CX P w) 4 fa fd_law ["_law_script"] (spF K mg 1 f_law) := fun base => ok_law B (C_law_kinds base) (C_law_fields base) (C_law_caught base) (C_law_take base) (C_law_name base) (C_law_box base) F_law
  refine ⟨fd_law, ?_, hF⟩
  obtain ⟨oc, od, kV, doc, pm, an, cdv, ct, osl, rfl, lk, hcd⟩ := F_law.ex
  exact fun s v => .of_eq rfl
end Lawk10
namespace Lawk10
open PySem PySem.Spec L2 Z G
abbrev bx (c s : Int) : O := .lst [.d (.int c), .d (.int s)]
class NeS (a b : Str) : Prop where
  ne : a ≠ b
instance nes0 : NeS "BadText" "NoBook" := ⟨by decide⟩
instance nes1 : NeS "BadText" "NoErrand" := ⟨by decide⟩
instance nes2 : NeS "BadText" "NoWorld" := ⟨by decide⟩
instance nes3 : NeS "BadText" "NoWay" := ⟨by decide⟩
instance nes4 : NeS "BadText" "TooMany" := ⟨by decide⟩
instance nes5 : NeS "BadText" "NoRow" := ⟨by decide⟩
instance nes7 : NeS "NoBook" "NoErrand" := ⟨by decide⟩
instance nes8 : NeS "NoBook" "NoWorld" := ⟨by decide⟩
instance nes9 : NeS "NoBook" "NoWay" := ⟨by decide⟩
instance nes10 : NeS "NoBook" "TooMany" := ⟨by decide⟩
instance nes11 : NeS "NoBook" "NoRow" := ⟨by decide⟩
instance nes14 : NeS "NoErrand" "NoWorld" := ⟨by decide⟩
instance nes15 : NeS "NoErrand" "NoWay" := ⟨by decide⟩
instance nes16 : NeS "NoErrand" "TooMany" := ⟨by decide⟩
instance nes17 : NeS "NoErrand" "NoRow" := ⟨by decide⟩
instance nes21 : NeS "NoWorld" "NoWay" := ⟨by decide⟩
instance nes22 : NeS "NoWorld" "TooMany" := ⟨by decide⟩
instance nes23 : NeS "NoWorld" "NoRow" := ⟨by decide⟩
instance nes28 : NeS "NoWay" "TooMany" := ⟨by decide⟩
instance nes29 : NeS "NoWay" "NoRow" := ⟨by decide⟩
instance nes35 : NeS "TooMany" "NoRow" := ⟨by decide⟩
instance akT {c d : Str} {b b2 : Bool} {r : List (Str × Bool)} [n : NeS d c] [h : AkC r c b] : AkC ((d, b2) :: r) c b := ⟨by
  rw [List.lookup_cons, show (c == d) = false from beq_eq_false_iff_ne.mpr fun e => n.ne e.symm]
  exact h.eq⟩
/-- the refusals that are raised, in their order -/
def exO (n : Int) (nm wd : Str) (k : Nat) : O :=
  if k = 0 then .exc "BadText" [("at", .int n)] else if k = 1 then .exc "NoBook" [("word", .str wd)] else if k = 2 then .exc "NoErrand" [("name", .str nm)]
  else if k = 3 then .exc "NoWorld" [("word", .str wd)] else if k = 4 then .exc "NoWay" [] else if k = 5 then .exc "TooMany" [("most", .int (n + 1))] else .exc "NoRow" []
theorem fw_caught {n : Int} (hn : 0 ≤ n) (hn2 : n ≤ 1000000) {nm wd : Str} {k : Nat} (hk : k < 7) {A : O → List O → Prop} {B : Exn → Prop}
    (kk : A (exO n nm wd k) [.d (.int (k : Nat)), .d (.int n), .d (.str nm), .d (.str wd)]) : FW (f_law_caught [.d (.int (k : Nat)), .d (.int n), .d (.str nm), .d (.str wd)]) A B := by
  unfold f_law_caught
  with_reducible refine Stp.go ?_
  unfold g_law_caught
  bv_omega
  refine IfK.dec (fun z0 => ?_) (fun z0 => ?_)
  · obtain rfl : k = 0 := by omega
    bv_omega
    exact kk
  bv_omega
  refine IfK.dec (fun z1 => ?_) (fun z1 => ?_)
  · obtain rfl : k = 1 := by omega
    bv_omega
    refine Sd.mk (by simp) ?_
    bv_omega
    exact kk
  bv_omega
  refine IfK.dec (fun z2 => ?_) (fun z2 => ?_)
  · obtain rfl : k = 2 := by omega
    bv_omega
    refine Sd.mk (by simp) ?_
    bv_omega
    exact kk
  bv_omega
  refine IfK.dec (fun z3 => ?_) (fun z3 => ?_)
  · obtain rfl : k = 3 := by omega
    bv_omega
    refine Sd.mk (by simp) ?_
    bv_omega
    exact kk
  bv_omega
  refine IfK.dec (fun z4 => ?_) (fun z4 => ?_)
  · obtain rfl : k = 4 := by omega
    bv_omega
    refine Sd.mk (by simp) ?_
    bv_omega
    exact kk
  bv_omega
  refine IfK.dec (fun z5 => ?_) (fun z5 => ?_)
  · obtain rfl : k = 5 := by omega
    bv_omega
    refine Sd.mk (by simp) ?_
    bv_omega
    exact kk
  bv_omega
  obtain rfl : k = 6 := by omega
  refine Sd.mk (by simp) ?_
  bv_omega
  exact kk
def frE (n : Int) (nm wd : Str) : O := .fr (.lst ((List.range 7).map (exO n nm wd)))
theorem el0 {n : Int} {nm wd : Str} : elF [frE n nm wd, .d (.int 0)] = some (.fr (.exc "BadText" [("at", .int n)])) := by with_unfolding_all rfl
theorem el1 {n : Int} {nm wd : Str} : elF [frE n nm wd, .d (.int 1)] = some (.fr (.exc "NoBook" [("word", .str wd)])) := by with_unfolding_all rfl
theorem el2 {n : Int} {nm wd : Str} : elF [frE n nm wd, .d (.int 2)] = some (.fr (.exc "NoErrand" [("name", .str nm)])) := by with_unfolding_all rfl
theorem el3 {n : Int} {nm wd : Str} : elF [frE n nm wd, .d (.int 3)] = some (.fr (.exc "NoWorld" [("word", .str wd)])) := by with_unfolding_all rfl
theorem el5 {n : Int} {nm wd : Str} : elF [frE n nm wd, .d (.int 5)] = some (.fr (.exc "TooMany" [("most", .int (n + 1))])) := by with_unfolding_all rfl
theorem optR {f : Option O} {o : O} (h : f = some o) {AO : O → Prop} (k : AO o) : optW f AO := by rw [h]; exact k
theorem fw_fields {n : Int} {nm wd : Str} {A : O → List O → Prop} {B : Exn → Prop} (kk : A (.d (.tuple [.int n, .str wd, .str nm, .str wd, .int (n + 1)])) [frE n nm wd]) : FW (f_law_fields [frE n nm wd]) A B := by
  unfold f_law_fields
  with_reducible refine Stp.go ?_
  unfold g_law_fields
  bv_omega
  with_reducible refine optR el0 ?_
  bv_omega
  with_reducible refine optR el1 ?_
  bv_omega
  with_reducible refine optR el2 ?_
  bv_omega
  with_reducible refine optR el3 ?_
  bv_omega
  refine Sd.mk (by simp) ?_
  bv_omega
  with_reducible refine optR el5 ?_
  bv_omega
  exact kk
theorem fw_kinds {n : Int} {nm wd : Str} {k : Nat} (hk : k < 7) {A : O → List O → Prop} {B : Exn → Prop} (kk : A (.lst (((List.range 7).map fun j => PyData.bool (decide (k = j))).map O.d)) [.fr (exO n nm wd k)]) : FW (f_law_kinds [.fr (exO n nm wd k)]) A B := by
  unfold f_law_kinds
  with_reducible refine Stp.go ?_
  unfold g_law_kinds
  rcases (show k = 0 ∨ k = 1 ∨ k = 2 ∨ k = 3 ∨ k = 4 ∨ k = 5 ∨ k = 6 by omega) with rfl | rfl | rfl | rfl | rfl | rfl | rfl
  · rw [show exO n nm wd 0 = .exc "BadText" [("at", .int n)] from rfl] at *
    bv_omega
    exact kk
  · rw [show exO n nm wd 1 = .exc "NoBook" [("word", .str wd)] from rfl] at *
    bv_omega
    exact kk
  · rw [show exO n nm wd 2 = .exc "NoErrand" [("name", .str nm)] from rfl] at *
    bv_omega
    exact kk
  · rw [show exO n nm wd 3 = .exc "NoWorld" [("word", .str wd)] from rfl] at *
    bv_omega
    exact kk
  · rw [show exO n nm wd 4 = .exc "NoWay" [] from rfl] at *
    bv_omega
    exact kk
  · rw [show exO n nm wd 5 = .exc "TooMany" [("most", .int (n + 1))] from rfl] at *
    bv_omega
    exact kk
  · rw [show exO n nm wd 6 = .exc "NoRow" [] from rfl] at *
    bv_omega
    exact kk
abbrev Tr := Int × Str × Str
def exL (p : Tr) : O := .lst ((List.range 7).map (exO p.1 p.2.1 p.2.2))
def dueD (p : Tr) : PyData := .tuple [.int p.1, .str p.2.2, .str p.2.1, .str p.2.2, .int (p.1 + 1)]
theorem sh_due {p : Tr} (h1 : SOk p.2.1) (h2 : SOk p.2.2) : SeqAt.shaped (dueD p) = true := by
  refine (Sh.tup (d := 1) fun x hx => ?_).shaped (by omega)
  simp only [List.mem_cons, List.not_mem_nil, or_false] at hx
  rcases hx with rfl | rfl | rfl | rfl | rfl
  · exact Sh.int
  · exact Sh.str h2
  · exact Sh.str h1
  · exact Sh.str h2
  · exact Sh.int
theorem fw_fieldsE {z : Tr} {A : O → List O → Prop} {B : Exn → Prop} (kk : A (.d (dueD z)) [.fr (exL z)]) : FW (f_law_fields [.fr (exL z)]) A B := by
  have h := @fw_fields z.1 z.2.1 z.2.2 A B kk
  exact h
def enE (z : Tr) (k : Nat) : O := .tup [.d (.int (k : Nat)), .fr (exO z.1 z.2.1 z.2.2 k)]
instance s_enE {z : Tr} {g : Gs} {AD : List O → Gs → Prop} {B : Exn → Gs → Prop} : Stp (Wp (enOM [.fr (exL z)] g) AD B) (AD ((List.range 7).map (enE z)) g) := ⟨fun h => by
  have e : enOM [.fr (exL z)] g = .ok ((List.range 7).map (enE z)) g := rfl
  rw [e]
  exact h⟩
theorem bl7 (k : Nat) : (List.range 7).map (fun (x : Nat) => O.d (.bool (decide (k = x)))) = ((List.range 7).map fun j => PyData.bool (decide (k = j))).map O.d := by rw [List.map_map]; rfl
theorem sh7 (k : Nat) : SeqAt.shaped (.list ((List.range 7).map fun j => PyData.bool (decide (k = j)))) = true := by
  refine (Sh.lst (d := 1) fun x hx => ?_).shaped (by omega)
  obtain ⟨z, _, rfl⟩ := List.mem_map.mp hx
  exact Sh.bool
abbrev allX : List (Str × Bool) := [("BadText", true), ("NoBook", true), ("NoErrand", true), ("NoWorld", true), ("NoWay", true), ("TooMany", true), ("NoRow", true)]
theorem isx_any {n : Int} {nm wd : Str} {k : Nat} (hk : k < 7) {A : O → Gs → Prop} {g : Gs} (h : A (.d (.bool true)) g) : IsxK allX A (exO n nm wd k) g := by
  rcases (show k = 0 ∨ k = 1 ∨ k = 2 ∨ k = 3 ∨ k = 4 ∨ k = 5 ∨ k = 6 by omega) with rfl | rfl | rfl | rfl | rfl | rfl | rfl
  · rw [show exO n nm wd 0 = .exc "BadText" [("at", .int n)] from rfl]
    exact ⟨true, (inferInstance : AkC allX "BadText" true).eq, h⟩
  · rw [show exO n nm wd 1 = .exc "NoBook" [("word", .str wd)] from rfl]
    exact ⟨true, (inferInstance : AkC allX "NoBook" true).eq, h⟩
  · rw [show exO n nm wd 2 = .exc "NoErrand" [("name", .str nm)] from rfl]
    exact ⟨true, (inferInstance : AkC allX "NoErrand" true).eq, h⟩
  · rw [show exO n nm wd 3 = .exc "NoWorld" [("word", .str wd)] from rfl]
    exact ⟨true, (inferInstance : AkC allX "NoWorld" true).eq, h⟩
  · rw [show exO n nm wd 4 = .exc "NoWay" [] from rfl]
    exact ⟨true, (inferInstance : AkC allX "NoWay" true).eq, h⟩
  · rw [show exO n nm wd 5 = .exc "TooMany" [("most", .int (n + 1))] from rfl]
    exact ⟨true, (inferInstance : AkC allX "TooMany" true).eq, h⟩
  · rw [show exO n nm wd 6 = .exc "NoRow" [] from rfl]
    exact ⟨true, (inferInstance : AkC allX "NoRow" true).eq, h⟩
instance stf2 {p q : Tr} : StFC (.lst [exL p, exL q]) (.fr (.lst [exL p, exL q])) := ⟨rfl⟩
def TrOk (p : Tr) : Prop := (0 ≤ p.1 ∧ p.1 ≤ 1000000) ∧ SOk p.2.1 ∧ SOk p.2.2
theorem ix_n {r1 r2 r3 : Int} (a1 : 0 ≤ r1) (a2 : r1 ≤ 1000000) (b1 : 0 ≤ r2) (b2 : r2 ≤ 1000000) (c1 : 0 ≤ r3) (c2 : r3 < 2) : ∃ n : Int, (0 ≤ n ∧ n ≤ 1000000) ∧ ∀ AO : O → Prop, AO (.d (.int n)) → optW (ixF [.lst [.d (.int r1), .d (.int r2)], .d (.int r3)]) AO := by
  rcases (show r3 = 0 ∨ r3 = 1 by omega) with rfl | rfl
  · exact ⟨r1, ⟨a1, a2⟩, fun AO k => optR (show ixF [.lst [.d (.int r1), .d (.int r2)], .d (.int 0)] = some (.d (.int r1)) from by with_unfolding_all rfl) k⟩
  · exact ⟨r2, ⟨b1, b2⟩, fun AO k => optR (show ixF [.lst [.d (.int r1), .d (.int r2)], .d (.int 1)] = some (.d (.int r2)) from by with_unfolding_all rfl) k⟩
def wds : List Str := ["asks", "deeds", "fact", "rooms", "moves", "yes"]
theorem wds_ok : ∀ w ∈ wds, SOk w := by
  intro w hw
  simp only [wds, List.mem_cons, List.not_mem_nil, or_false] at hw
  rcases hw with rfl | rfl | rfl | rfl | rfl | rfl <;> decide
theorem ix_w {r4 : Int} (c1 : 0 ≤ r4) (c2 : r4 < 6) : ∃ w : Str, SOk w ∧ ∀ AO : O → Prop, AO (.d (.str w)) → optW (ixF [.lst [.d (.str "asks"), .d (.str "deeds"), .d (.str "fact"), .d (.str "rooms"), .d (.str "moves"), .d (.str "yes")], .d (.int r4)]) AO := by
  obtain ⟨i, rfl⟩ : ∃ i : Nat, r4 = i := ⟨r4.toNat, by omega⟩
  have hi : i < wds.length := by show i < 6; omega
  exact ⟨wds[i], wds_ok _ (List.getElem_mem hi), fun AO k => ix_get (e := PyData.str) (l := wds) rfl hi (by intro z h; cases h) k⟩
theorem ints7 : intsF 0 (Int.toNat 7) = (List.range 7).map fun (x : Nat) => PyData.int (x : Int) := intsF_nat 7
theorem law_true : ∀ ns : List Int, ns.length ≤ 63 → trueF f_law ns := by
  intro ns hns
  have main : FW (f_law [.gL (ns.map PyData.int)]) (fun r ps => r = .d (.bool true) ∧ ps.length = 1) (fun _ => False) := by
    unfold f_law
    with_reducible refine Stp.go ?_
    unfold g_law
    have l0 : (ns.map PyData.int).length = ns.length := List.length_map _
    bv_omega
    intro c s
    bv_omega
    refine wp_forN (fun i g => ∃ (c s : Int) (P : List Tr) (o4 o5 o6 o7 o8 o9 o10 o11 : Option O), (P.length : Int) = i ∧ (∀ p ∈ P, TrOk p) ∧ g = [some (.gL (ns.map PyData.int)), some (bx c s), some (.lst (P.map exL)), some (.lst ((P.map dueD).map O.d)), o4, o5, o6, o7, o8, o9, o10, o11]) ?_ ?_ ⟨c, s, [], none, none, none, none, none, none, none, none, rfl, (fun p h => nomatch h), rfl⟩
    · rintro g ⟨c, s, P, o4, o5, o6, o7, o8, o9, o10, o11, hl, hP, eg⟩
      subst eg
      have h2 : ∃ p q, P = [p, q] := by
        match P, hl with
        | [p, q], _ => exact ⟨p, q, rfl⟩
        | [], h => simp at h
        | [_], h => simp at h
        | _ :: _ :: _ :: _, h => simp at h; omega
      have h3 := h2.choose_spec
      generalize h2.choose = p at h3
      have h4 := h3.choose_spec
      generalize h3.choose = q at h4
      clear h3 h2 hl
      have hp : TrOk p := hP p (by rw [h4]; simp)
      have hq : TrOk q := hP q (by rw [h4]; simp)
      clear hP
      subst h4
      rw [show [p, q].map exL = [exL p, exL q] from rfl, show ([p, q].map dueD).map O.d = [.d (dueD p), .d (dueD q)] from rfl]
      bv_omega
      rw [show zpOI [exL p, exL q] [dueD p, dueD q] = [p, q].map fun p => .tup [.fr (exL p), .d (dueD p)] from rfl]
      have hpq : ∀ z ∈ [p, q], TrOk z := fun z hz => by
        simp only [List.mem_cons, List.not_mem_nil, or_false] at hz
        rcases hz with rfl | rfl
        · exact hp
        · exact hq
      clear hp hq
      generalize O.fr (.lst [exL p, exL q]) = ob
      generalize O.d (PyData.list [dueD p, dueD q]) = od
      with_reducible refine wp_forO (fun p => .tup [.fr (exL p), .d (dueD p)]) (fun r g => ∃ (o4 o5 o6 o7 o8 o9 o10 o11 : Option O), (∀ z ∈ r, TrOk z) ∧ g = [some (.gL (ns.map PyData.int)), some (bx c s), some ob, some od, o4, o5, o6, o7, o8, o9, o10, o11]) ?_ ?_ ⟨_, _, _, _, _, _, _, _, hpq, rfl⟩
      · rintro g ⟨o4, o5, o6, o7, o8, o9, o10, o11, _, eg⟩
        subst eg
        bv_omega
        exact ⟨rfl, rfl⟩
      · rintro z r g ⟨o4, o5, o6, o7, o8, o9, o10, o11, hz, eg⟩
        have hz1 := hz z (by simp)
        have hz2 : ∀ y ∈ r, TrOk y := fun y hy => hz y (by simp [hy])
        have shd : SeqAt.shaped (dueD z) = true := sh_due hz1.2.1 hz1.2.2
        clear hz
        subst eg
        bv_omega
        with_reducible refine fw_fieldsE ?_
        bv_omega
        refine Sd.mk ⟨shd, shd⟩ ?_
        rw [eqv_refl _ (SeqAt.canLay_of_shaped shd)]
        bv_omega
        with_reducible refine wp_forO (enE z) (fun ks g => ∃ (o4 o10 o11 : Option O), (∀ k ∈ ks, k < 7) ∧ g = [some (.gL (ns.map PyData.int)), some (bx c s), some ob, some od, o4, o5, o6, o7, some (.fr (exL z)), some (.d (dueD z)), o10, o11]) ?_ ?_ ⟨_, _, _, fun k hk => List.mem_range.mp hk, rfl⟩
        · rintro g ⟨o4, o10, o11, _, eg⟩
          subst eg
          bv_omega
          exact ⟨_, _, _, _, _, _, _, _, hz2, rfl⟩
        · rintro k ks g ⟨o4, o10, o11, hk, eg⟩
          have hk7 : k < 7 := hk k (by simp)
          have hks : ∀ y ∈ ks, y < 7 := fun y hy => hk y (by simp [hy])
          clear hk
          subst eg
          rw [show enE z k = .tup [.d (.int (k : Nat)), .fr (exO z.1 z.2.1 z.2.2 k)] from rfl]
          bv_omega
          with_reducible refine fw_kinds hk7 ?_
          bv_omega
          rw [ints7]
          with_reducible refine wp_lcF (fun (x : Nat) => PyData.int (x : Int)) (fun (x : Nat) => O.d (.bool (decide (k = x)))) (fun x hx => ?_) ?_
          · bv_omega
            rw [show decide ((x : Int) = (k : Int)) = decide (k = x) from decide_eq_decide.mpr (by omega)]
            bv_omega
            trivial
          · rw [List.nil_append, bl7]
            bv_omega
            refine Sd.mk ⟨sh7 k, sh7 k⟩ ?_
            rw [eqv_refl _ (SeqAt.canLay_of_shaped (sh7 k))]
            bv_omega
            with_reducible refine isx_any hk7 ?_
            bv_omega
            with_reducible refine isx_any hk7 ?_
            bv_omega
            exact ⟨_, _, _, hks, rfl⟩
    · rintro i g i0 i1 ⟨c, s, P, o4, o5, o6, o7, o8, o9, o10, o11, hl, hP, eg⟩
      subst eg
      bv_omega
      intro r1 c s r10 r11
      bv_omega
      rw [show (10 : Int) ^ Int.toNat 6 = 1000000 by decide]
      refine Sd.mk (by decide) ?_
      intro r2 c s r20 r21
      bv_omega
      intro r3 c s r30 r31
      have hn := ix_n r10 (by omega) r20 (by omega) r30 r31
      have hn1 := hn.choose_spec
      generalize hn.choose = n at hn1
      clear hn r10 r11 r20 r21 r30 r31
      bv_omega
      with_reducible refine hn1.2 _ ?_
      bv_omega
      intro nm c s hnm
      have snm : SOk nm := low_sok hnm.low
      bv_omega
      intro r4 c s r40 r41
      have hw := ix_w r40 r41
      have hw1 := hw.choose_spec
      generalize hw.choose = wd at hw1
      clear hw r40 r41
      bv_omega
      with_reducible refine hw1.2 _ ?_
      bv_omega
      rw [ints7]
      with_reducible refine wp_lcF (fun (x : Nat) => PyData.int (x : Int)) (exO n nm wd) (fun x hx => ?_) ?_
      · have hx := List.mem_range.mp hx
        bv_omega
        with_reducible refine fw_caught hn1.1.1 hn1.1.2 hx ?_
        bv_omega
        trivial
      · have lp : (P.map exL).length < 16777216 := by rw [List.length_map]; omega
        have lq : ((P.map dueD).map O.d).length < 16777216 := by rw [List.length_map, List.length_map]; omega
        rw [List.nil_append]
        bv_omega
        refine ⟨c, s, P ++ [(n, nm, wd)], some (.d (.int i)), some (.d (.int n)), some (.d (.str nm)), some (.d (.str wd)), o8, o9, o10, o11, by rw [List.length_append, List.length_singleton]; omega, fun p hp => ?_, ?_⟩
        rotate_left
        · rw [List.map_append, List.map_append, List.map_append]
          rfl
        · rcases List.mem_append.mp hp with h | h
          · exact hP p h
          · rw [List.mem_singleton.mp h]
            exact ⟨hn1.1, snm, hw1.1⟩
  exact main
end Lawk10
open PySem PySem.W PyProof.Rows
set_option maxRecDepth 100000 in
set_option maxHeartbeats 0 in
theorem PySem.Challenge.cw_unsaidways_k10_refusals_holds : PySem.Challenge.rw_unsaidways_k10_refusals.Holds := by
  w_on; o_law; k_head; (case hw => w_witness2)
  k_fill
  refine Z.zwalk (l := PySem.Challenge.rw_unsaidways_k10_refusals) (x := "_law_script") 4 rfl rfl ⟨rfl, by decide, by decide⟩ Lawk10.law_true (fun w h Y => PySem.W.kIn_of Y) ?F
  case F =>
    intro w mg fa h KX G hmg
    refine' Lawk10.all_ok hmg ⟨PySem.W.mg_none_of KX G ?n_enumerate, PySem.W.mg_none_of KX G ?n_isinstance, PySem.W.mg_none_of KX G ?n_len, PySem.W.mg_none_of KX G ?n_range, PySem.W.mg_none_of KX G ?n_zip, ⟨_, (.own (PySem.W.mg_of KX G ?aX_NoRow) .nil), (Z.isCons KX G ?aX_BadText ⟨?ec1_BadText, ?ec2_BadText, ?ec3_BadText, ?ec4_BadText, ?ec5_BadText, ?ec6_BadText, ?ec7_BadText, ?ec8_BadText⟩ ?is_NoRow_BadText (Z.isCons KX G ?aX_NoBook ⟨?ec1_NoBook, ?ec2_NoBook, ?ec3_NoBook, ?ec4_NoBook, ?ec5_NoBook, ?ec6_NoBook, ?ec7_NoBook, ?ec8_NoBook⟩ ?is_NoRow_NoBook (Z.isCons KX G ?aX_NoErrand ⟨?ec1_NoErrand, ?ec2_NoErrand, ?ec3_NoErrand, ?ec4_NoErrand, ?ec5_NoErrand, ?ec6_NoErrand, ?ec7_NoErrand, ?ec8_NoErrand⟩ ?is_NoRow_NoErrand (Z.isCons KX G ?aX_NoWorld ⟨?ec1_NoWorld, ?ec2_NoWorld, ?ec3_NoWorld, ?ec4_NoWorld, ?ec5_NoWorld, ?ec6_NoWorld, ?ec7_NoWorld, ?ec8_NoWorld⟩ ?is_NoRow_NoWorld (Z.isCons KX G ?aX_NoWay ⟨?ec1_NoWay, ?ec2_NoWay, ?ec3_NoWay, ?ec4_NoWay, ?ec5_NoWay, ?ec6_NoWay, ?ec7_NoWay, ?ec8_NoWay⟩ ?is_NoRow_NoWay (Z.isCons KX G ?aX_TooMany ⟨?ec1_TooMany, ?ec2_TooMany, ?ec3_TooMany, ?ec4_TooMany, ?ec5_TooMany, ?ec6_TooMany, ?ec7_TooMany, ?ec8_TooMany⟩ ?is_NoRow_TooMany (Z.isCons KX G ?aX_NoRow ⟨?ec1_NoRow, ?ec2_NoRow, ?ec3_NoRow, ?ec4_NoRow, ?ec5_NoRow, ?ec6_NoRow, ?ec7_NoRow, ?ec8_NoRow⟩ ?is_NoRow_NoRow Z.isNil)))))))⟩, ⟨_, (.own (PySem.W.mg_of KX G ?aX_TooMany) .nil), (Z.isCons KX G ?aX_BadText ⟨?ec1_BadText, ?ec2_BadText, ?ec3_BadText, ?ec4_BadText, ?ec5_BadText, ?ec6_BadText, ?ec7_BadText, ?ec8_BadText⟩ ?is_TooMany_BadText (Z.isCons KX G ?aX_NoBook ⟨?ec1_NoBook, ?ec2_NoBook, ?ec3_NoBook, ?ec4_NoBook, ?ec5_NoBook, ?ec6_NoBook, ?ec7_NoBook, ?ec8_NoBook⟩ ?is_TooMany_NoBook (Z.isCons KX G ?aX_NoErrand ⟨?ec1_NoErrand, ?ec2_NoErrand, ?ec3_NoErrand, ?ec4_NoErrand, ?ec5_NoErrand, ?ec6_NoErrand, ?ec7_NoErrand, ?ec8_NoErrand⟩ ?is_TooMany_NoErrand (Z.isCons KX G ?aX_NoWorld ⟨?ec1_NoWorld, ?ec2_NoWorld, ?ec3_NoWorld, ?ec4_NoWorld, ?ec5_NoWorld, ?ec6_NoWorld, ?ec7_NoWorld, ?ec8_NoWorld⟩ ?is_TooMany_NoWorld (Z.isCons KX G ?aX_NoWay ⟨?ec1_NoWay, ?ec2_NoWay, ?ec3_NoWay, ?ec4_NoWay, ?ec5_NoWay, ?ec6_NoWay, ?ec7_NoWay, ?ec8_NoWay⟩ ?is_TooMany_NoWay (Z.isCons KX G ?aX_TooMany ⟨?ec1_TooMany, ?ec2_TooMany, ?ec3_TooMany, ?ec4_TooMany, ?ec5_TooMany, ?ec6_TooMany, ?ec7_TooMany, ?ec8_TooMany⟩ ?is_TooMany_TooMany (Z.isCons KX G ?aX_NoRow ⟨?ec1_NoRow, ?ec2_NoRow, ?ec3_NoRow, ?ec4_NoRow, ?ec5_NoRow, ?ec6_NoRow, ?ec7_NoRow, ?ec8_NoRow⟩ ?is_TooMany_NoRow Z.isNil)))))))⟩, ⟨_, (.own (PySem.W.mg_of KX G ?aX_NoWay) .nil), (Z.isCons KX G ?aX_BadText ⟨?ec1_BadText, ?ec2_BadText, ?ec3_BadText, ?ec4_BadText, ?ec5_BadText, ?ec6_BadText, ?ec7_BadText, ?ec8_BadText⟩ ?is_NoWay_BadText (Z.isCons KX G ?aX_NoBook ⟨?ec1_NoBook, ?ec2_NoBook, ?ec3_NoBook, ?ec4_NoBook, ?ec5_NoBook, ?ec6_NoBook, ?ec7_NoBook, ?ec8_NoBook⟩ ?is_NoWay_NoBook (Z.isCons KX G ?aX_NoErrand ⟨?ec1_NoErrand, ?ec2_NoErrand, ?ec3_NoErrand, ?ec4_NoErrand, ?ec5_NoErrand, ?ec6_NoErrand, ?ec7_NoErrand, ?ec8_NoErrand⟩ ?is_NoWay_NoErrand (Z.isCons KX G ?aX_NoWorld ⟨?ec1_NoWorld, ?ec2_NoWorld, ?ec3_NoWorld, ?ec4_NoWorld, ?ec5_NoWorld, ?ec6_NoWorld, ?ec7_NoWorld, ?ec8_NoWorld⟩ ?is_NoWay_NoWorld (Z.isCons KX G ?aX_NoWay ⟨?ec1_NoWay, ?ec2_NoWay, ?ec3_NoWay, ?ec4_NoWay, ?ec5_NoWay, ?ec6_NoWay, ?ec7_NoWay, ?ec8_NoWay⟩ ?is_NoWay_NoWay (Z.isCons KX G ?aX_TooMany ⟨?ec1_TooMany, ?ec2_TooMany, ?ec3_TooMany, ?ec4_TooMany, ?ec5_TooMany, ?ec6_TooMany, ?ec7_TooMany, ?ec8_TooMany⟩ ?is_NoWay_TooMany (Z.isCons KX G ?aX_NoRow ⟨?ec1_NoRow, ?ec2_NoRow, ?ec3_NoRow, ?ec4_NoRow, ?ec5_NoRow, ?ec6_NoRow, ?ec7_NoRow, ?ec8_NoRow⟩ ?is_NoWay_NoRow Z.isNil)))))))⟩, ⟨_, (.own (PySem.W.mg_of KX G ?aX_NoWorld) .nil), (Z.isCons KX G ?aX_BadText ⟨?ec1_BadText, ?ec2_BadText, ?ec3_BadText, ?ec4_BadText, ?ec5_BadText, ?ec6_BadText, ?ec7_BadText, ?ec8_BadText⟩ ?is_NoWorld_BadText (Z.isCons KX G ?aX_NoBook ⟨?ec1_NoBook, ?ec2_NoBook, ?ec3_NoBook, ?ec4_NoBook, ?ec5_NoBook, ?ec6_NoBook, ?ec7_NoBook, ?ec8_NoBook⟩ ?is_NoWorld_NoBook (Z.isCons KX G ?aX_NoErrand ⟨?ec1_NoErrand, ?ec2_NoErrand, ?ec3_NoErrand, ?ec4_NoErrand, ?ec5_NoErrand, ?ec6_NoErrand, ?ec7_NoErrand, ?ec8_NoErrand⟩ ?is_NoWorld_NoErrand (Z.isCons KX G ?aX_NoWorld ⟨?ec1_NoWorld, ?ec2_NoWorld, ?ec3_NoWorld, ?ec4_NoWorld, ?ec5_NoWorld, ?ec6_NoWorld, ?ec7_NoWorld, ?ec8_NoWorld⟩ ?is_NoWorld_NoWorld (Z.isCons KX G ?aX_NoWay ⟨?ec1_NoWay, ?ec2_NoWay, ?ec3_NoWay, ?ec4_NoWay, ?ec5_NoWay, ?ec6_NoWay, ?ec7_NoWay, ?ec8_NoWay⟩ ?is_NoWorld_NoWay (Z.isCons KX G ?aX_TooMany ⟨?ec1_TooMany, ?ec2_TooMany, ?ec3_TooMany, ?ec4_TooMany, ?ec5_TooMany, ?ec6_TooMany, ?ec7_TooMany, ?ec8_TooMany⟩ ?is_NoWorld_TooMany (Z.isCons KX G ?aX_NoRow ⟨?ec1_NoRow, ?ec2_NoRow, ?ec3_NoRow, ?ec4_NoRow, ?ec5_NoRow, ?ec6_NoRow, ?ec7_NoRow, ?ec8_NoRow⟩ ?is_NoWorld_NoRow Z.isNil)))))))⟩, ⟨_, (.own (PySem.W.mg_of KX G ?aX_NoErrand) .nil), (Z.isCons KX G ?aX_BadText ⟨?ec1_BadText, ?ec2_BadText, ?ec3_BadText, ?ec4_BadText, ?ec5_BadText, ?ec6_BadText, ?ec7_BadText, ?ec8_BadText⟩ ?is_NoErrand_BadText (Z.isCons KX G ?aX_NoBook ⟨?ec1_NoBook, ?ec2_NoBook, ?ec3_NoBook, ?ec4_NoBook, ?ec5_NoBook, ?ec6_NoBook, ?ec7_NoBook, ?ec8_NoBook⟩ ?is_NoErrand_NoBook (Z.isCons KX G ?aX_NoErrand ⟨?ec1_NoErrand, ?ec2_NoErrand, ?ec3_NoErrand, ?ec4_NoErrand, ?ec5_NoErrand, ?ec6_NoErrand, ?ec7_NoErrand, ?ec8_NoErrand⟩ ?is_NoErrand_NoErrand (Z.isCons KX G ?aX_NoWorld ⟨?ec1_NoWorld, ?ec2_NoWorld, ?ec3_NoWorld, ?ec4_NoWorld, ?ec5_NoWorld, ?ec6_NoWorld, ?ec7_NoWorld, ?ec8_NoWorld⟩ ?is_NoErrand_NoWorld (Z.isCons KX G ?aX_NoWay ⟨?ec1_NoWay, ?ec2_NoWay, ?ec3_NoWay, ?ec4_NoWay, ?ec5_NoWay, ?ec6_NoWay, ?ec7_NoWay, ?ec8_NoWay⟩ ?is_NoErrand_NoWay (Z.isCons KX G ?aX_TooMany ⟨?ec1_TooMany, ?ec2_TooMany, ?ec3_TooMany, ?ec4_TooMany, ?ec5_TooMany, ?ec6_TooMany, ?ec7_TooMany, ?ec8_TooMany⟩ ?is_NoErrand_TooMany (Z.isCons KX G ?aX_NoRow ⟨?ec1_NoRow, ?ec2_NoRow, ?ec3_NoRow, ?ec4_NoRow, ?ec5_NoRow, ?ec6_NoRow, ?ec7_NoRow, ?ec8_NoRow⟩ ?is_NoErrand_NoRow Z.isNil)))))))⟩, ⟨_, (.own (PySem.W.mg_of KX G ?aX_NoBook) .nil), (Z.isCons KX G ?aX_BadText ⟨?ec1_BadText, ?ec2_BadText, ?ec3_BadText, ?ec4_BadText, ?ec5_BadText, ?ec6_BadText, ?ec7_BadText, ?ec8_BadText⟩ ?is_NoBook_BadText (Z.isCons KX G ?aX_NoBook ⟨?ec1_NoBook, ?ec2_NoBook, ?ec3_NoBook, ?ec4_NoBook, ?ec5_NoBook, ?ec6_NoBook, ?ec7_NoBook, ?ec8_NoBook⟩ ?is_NoBook_NoBook (Z.isCons KX G ?aX_NoErrand ⟨?ec1_NoErrand, ?ec2_NoErrand, ?ec3_NoErrand, ?ec4_NoErrand, ?ec5_NoErrand, ?ec6_NoErrand, ?ec7_NoErrand, ?ec8_NoErrand⟩ ?is_NoBook_NoErrand (Z.isCons KX G ?aX_NoWorld ⟨?ec1_NoWorld, ?ec2_NoWorld, ?ec3_NoWorld, ?ec4_NoWorld, ?ec5_NoWorld, ?ec6_NoWorld, ?ec7_NoWorld, ?ec8_NoWorld⟩ ?is_NoBook_NoWorld (Z.isCons KX G ?aX_NoWay ⟨?ec1_NoWay, ?ec2_NoWay, ?ec3_NoWay, ?ec4_NoWay, ?ec5_NoWay, ?ec6_NoWay, ?ec7_NoWay, ?ec8_NoWay⟩ ?is_NoBook_NoWay (Z.isCons KX G ?aX_TooMany ⟨?ec1_TooMany, ?ec2_TooMany, ?ec3_TooMany, ?ec4_TooMany, ?ec5_TooMany, ?ec6_TooMany, ?ec7_TooMany, ?ec8_TooMany⟩ ?is_NoBook_TooMany (Z.isCons KX G ?aX_NoRow ⟨?ec1_NoRow, ?ec2_NoRow, ?ec3_NoRow, ?ec4_NoRow, ?ec5_NoRow, ?ec6_NoRow, ?ec7_NoRow, ?ec8_NoRow⟩ ?is_NoBook_NoRow Z.isNil)))))))⟩, ⟨_, (.own (PySem.W.mg_of KX G ?aX_BadText) .nil), (Z.isCons KX G ?aX_BadText ⟨?ec1_BadText, ?ec2_BadText, ?ec3_BadText, ?ec4_BadText, ?ec5_BadText, ?ec6_BadText, ?ec7_BadText, ?ec8_BadText⟩ ?is_BadText_BadText (Z.isCons KX G ?aX_NoBook ⟨?ec1_NoBook, ?ec2_NoBook, ?ec3_NoBook, ?ec4_NoBook, ?ec5_NoBook, ?ec6_NoBook, ?ec7_NoBook, ?ec8_NoBook⟩ ?is_BadText_NoBook (Z.isCons KX G ?aX_NoErrand ⟨?ec1_NoErrand, ?ec2_NoErrand, ?ec3_NoErrand, ?ec4_NoErrand, ?ec5_NoErrand, ?ec6_NoErrand, ?ec7_NoErrand, ?ec8_NoErrand⟩ ?is_BadText_NoErrand (Z.isCons KX G ?aX_NoWorld ⟨?ec1_NoWorld, ?ec2_NoWorld, ?ec3_NoWorld, ?ec4_NoWorld, ?ec5_NoWorld, ?ec6_NoWorld, ?ec7_NoWorld, ?ec8_NoWorld⟩ ?is_BadText_NoWorld (Z.isCons KX G ?aX_NoWay ⟨?ec1_NoWay, ?ec2_NoWay, ?ec3_NoWay, ?ec4_NoWay, ?ec5_NoWay, ?ec6_NoWay, ?ec7_NoWay, ?ec8_NoWay⟩ ?is_BadText_NoWay (Z.isCons KX G ?aX_TooMany ⟨?ec1_TooMany, ?ec2_TooMany, ?ec3_TooMany, ?ec4_TooMany, ?ec5_TooMany, ?ec6_TooMany, ?ec7_TooMany, ?ec8_TooMany⟩ ?is_BadText_TooMany (Z.isCons KX G ?aX_NoRow ⟨?ec1_NoRow, ?ec2_NoRow, ?ec3_NoRow, ?ec4_NoRow, ?ec5_NoRow, ?ec6_NoRow, ?ec7_NoRow, ?ec8_NoRow⟩ ?is_BadText_NoRow Z.isNil)))))))⟩, (Z.hndOf (Z.hndCons KX G ?aX_BadText ?hd_WayError_BadText (Z.hndCons KX G ?aX_NoBook ?hd_WayError_NoBook (Z.hndCons KX G ?aX_NoErrand ?hd_WayError_NoErrand (Z.hndCons KX G ?aX_NoWorld ?hd_WayError_NoWorld (Z.hndCons KX G ?aX_NoWay ?hd_WayError_NoWay (Z.hndCons KX G ?aX_TooMany ?hd_WayError_TooMany (Z.hndCons KX G ?aX_NoRow ?hd_WayError_NoRow (Z.hndNil KX G ?aX_WayError))))))))), (Z.xplnAt PySem.F.excBase_ValueError KX G ?aX_NoRow ?xp_NoRow1 ?xp_NoRow2 ?xp_NoRow3 ?xp_NoRow4), (Z.xplnAt PySem.F.excBase_ValueError KX G ?aX_NoWay ?xp_NoWay1 ?xp_NoWay2 ?xp_NoWay3 ?xp_NoWay4), (Z.xfsCons KX G ?aX_TooMany ⟨?ec1_TooMany, ?ec2_TooMany, ?ec3_TooMany, ?ec4_TooMany⟩ ?xf_mostn_TooMany Z.xfsNil), (Z.xfsCons KX G ?aX_NoBook ⟨?ec1_NoBook, ?ec2_NoBook, ?ec3_NoBook, ?ec4_NoBook⟩ ?xf_wordn_NoBook (Z.xfsCons KX G ?aX_NoWorld ⟨?ec1_NoWorld, ?ec2_NoWorld, ?ec3_NoWorld, ?ec4_NoWorld⟩ ?xf_wordn_NoWorld Z.xfsNil)), (Z.xfsCons KX G ?aX_NoErrand ⟨?ec1_NoErrand, ?ec2_NoErrand, ?ec3_NoErrand, ?ec4_NoErrand⟩ ?xf_namen_NoErrand Z.xfsNil), (Z.xfsCons KX G ?aX_BadText ⟨?ec1_BadText, ?ec2_BadText, ?ec3_BadText, ?ec4_BadText⟩ ?xf_atn_BadText Z.xfsNil), ⟨_, (.ty (PySem.W.mg_none_of KX G ?n_ValueError) PyProof.Rows.Boot.«ValueError» .nil), (Z.isCons KX G ?aX_BadText ⟨?ec1_BadText, ?ec2_BadText, ?ec3_BadText, ?ec4_BadText, ?ec5_BadText, ?ec6_BadText, ?ec7_BadText, ?ec8_BadText⟩ ?is_ValueError_BadText (Z.isCons KX G ?aX_NoBook ⟨?ec1_NoBook, ?ec2_NoBook, ?ec3_NoBook, ?ec4_NoBook, ?ec5_NoBook, ?ec6_NoBook, ?ec7_NoBook, ?ec8_NoBook⟩ ?is_ValueError_NoBook (Z.isCons KX G ?aX_NoErrand ⟨?ec1_NoErrand, ?ec2_NoErrand, ?ec3_NoErrand, ?ec4_NoErrand, ?ec5_NoErrand, ?ec6_NoErrand, ?ec7_NoErrand, ?ec8_NoErrand⟩ ?is_ValueError_NoErrand (Z.isCons KX G ?aX_NoWorld ⟨?ec1_NoWorld, ?ec2_NoWorld, ?ec3_NoWorld, ?ec4_NoWorld, ?ec5_NoWorld, ?ec6_NoWorld, ?ec7_NoWorld, ?ec8_NoWorld⟩ ?is_ValueError_NoWorld (Z.isCons KX G ?aX_NoWay ⟨?ec1_NoWay, ?ec2_NoWay, ?ec3_NoWay, ?ec4_NoWay, ?ec5_NoWay, ?ec6_NoWay, ?ec7_NoWay, ?ec8_NoWay⟩ ?is_ValueError_NoWay (Z.isCons KX G ?aX_TooMany ⟨?ec1_TooMany, ?ec2_TooMany, ?ec3_TooMany, ?ec4_TooMany, ?ec5_TooMany, ?ec6_TooMany, ?ec7_TooMany, ?ec8_TooMany⟩ ?is_ValueError_TooMany (Z.isCons KX G ?aX_NoRow ⟨?ec1_NoRow, ?ec2_NoRow, ?ec3_NoRow, ?ec4_NoRow, ?ec5_NoRow, ?ec6_NoRow, ?ec7_NoRow, ?ec8_NoRow⟩ ?is_ValueError_NoRow Z.isNil)))))))⟩, ⟨_, (.own (PySem.W.mg_of KX G ?aX_WayError) .nil), (Z.isCons KX G ?aX_BadText ⟨?ec1_BadText, ?ec2_BadText, ?ec3_BadText, ?ec4_BadText, ?ec5_BadText, ?ec6_BadText, ?ec7_BadText, ?ec8_BadText⟩ ?is_WayError_BadText (Z.isCons KX G ?aX_NoBook ⟨?ec1_NoBook, ?ec2_NoBook, ?ec3_NoBook, ?ec4_NoBook, ?ec5_NoBook, ?ec6_NoBook, ?ec7_NoBook, ?ec8_NoBook⟩ ?is_WayError_NoBook (Z.isCons KX G ?aX_NoErrand ⟨?ec1_NoErrand, ?ec2_NoErrand, ?ec3_NoErrand, ?ec4_NoErrand, ?ec5_NoErrand, ?ec6_NoErrand, ?ec7_NoErrand, ?ec8_NoErrand⟩ ?is_WayError_NoErrand (Z.isCons KX G ?aX_NoWorld ⟨?ec1_NoWorld, ?ec2_NoWorld, ?ec3_NoWorld, ?ec4_NoWorld, ?ec5_NoWorld, ?ec6_NoWorld, ?ec7_NoWorld, ?ec8_NoWorld⟩ ?is_WayError_NoWorld (Z.isCons KX G ?aX_NoWay ⟨?ec1_NoWay, ?ec2_NoWay, ?ec3_NoWay, ?ec4_NoWay, ?ec5_NoWay, ?ec6_NoWay, ?ec7_NoWay, ?ec8_NoWay⟩ ?is_WayError_NoWay (Z.isCons KX G ?aX_TooMany ⟨?ec1_TooMany, ?ec2_TooMany, ?ec3_TooMany, ?ec4_TooMany, ?ec5_TooMany, ?ec6_TooMany, ?ec7_TooMany, ?ec8_TooMany⟩ ?is_WayError_TooMany (Z.isCons KX G ?aX_NoRow ⟨?ec1_NoRow, ?ec2_NoRow, ?ec3_NoRow, ?ec4_NoRow, ?ec5_NoRow, ?ec6_NoRow, ?ec7_NoRow, ?ec8_NoRow⟩ ?is_WayError_NoRow Z.isNil)))))))⟩, (Z.xbAt (mc := .type "type") KX G ?aX_WayError ?xb_WayError1 ?xb_WayError2 ?xb_WayError3)⟩ (Z.xmakAt KX G ?aX_BadText ?xl_BadText ?xr_BadText ?xs_BadText ?xsb_BadText ?xty_BadText ?xk_BadText ?i_BadText_init ?tf_BadText_init ?n_BadText_init ?l_BadText_init ?c_BadText_init ?k_BadText_init) (Z.xmakAt KX G ?aX_NoBook ?xl_NoBook ?xr_NoBook ?xs_NoBook ?xsb_NoBook ?xty_NoBook ?xk_NoBook ?i_NoBook_init ?tf_NoBook_init ?n_NoBook_init ?l_NoBook_init ?c_NoBook_init ?k_NoBook_init) (Z.xmakAt KX G ?aX_NoErrand ?xl_NoErrand ?xr_NoErrand ?xs_NoErrand ?xsb_NoErrand ?xty_NoErrand ?xk_NoErrand ?i_NoErrand_init ?tf_NoErrand_init ?n_NoErrand_init ?l_NoErrand_init ?c_NoErrand_init ?k_NoErrand_init) (Z.xmakAt KX G ?aX_NoWorld ?xl_NoWorld ?xr_NoWorld ?xs_NoWorld ?xsb_NoWorld ?xty_NoWorld ?xk_NoWorld ?i_NoWorld_init ?tf_NoWorld_init ?n_NoWorld_init ?l_NoWorld_init ?c_NoWorld_init ?k_NoWorld_init) (Z.xmakAt KX G ?aX_TooMany ?xl_TooMany ?xr_TooMany ?xs_TooMany ?xsb_TooMany ?xty_TooMany ?xk_TooMany ?i_TooMany_init ?tf_TooMany_init ?n_TooMany_init ?l_TooMany_init ?c_TooMany_init ?k_TooMany_init) (Z.defAt KX G ?a_law_box ?l_law_box ?c_law_box ?k_law_box) (Z.defAt KX G ?a_law_take ?l_law_take ?c_law_take ?k_law_take) (Z.defAt KX G ?a_law_taken ?l_law_taken ?c_law_taken ?k_law_taken) (Z.defAt KX G ?a_law_name ?l_law_name ?c_law_name ?k_law_name) (Z.defAt KX G ?a_law_kinds ?l_law_kinds ?c_law_kinds ?k_law_kinds) (Z.defAt KX G ?a_law_caught ?l_law_caught ?c_law_caught ?k_law_caught) (Z.defAt KX G ?a_law_fields ?l_law_fields ?c_law_fields ?k_law_fields) (Z.defAt KX G ?a_law ?l_law ?c_law ?k_law)
    case aX_NoRow => k_is
    case aX_TooMany => k_is
    case aX_NoWay => k_is
    case aX_NoWorld => k_is
    case aX_NoErrand => k_is
    case aX_NoBook => k_is
    case aX_BadText => k_is
    case aX_WayError => k_is
    case n_enumerate => k_is
    case n_isinstance => k_is
    case n_len => k_is
    case n_range => k_is
    case n_zip => k_is
    case ec1_NoRow => k_is
    case ec2_NoRow => k_is
    case ec3_NoRow => k_is
    case ec4_NoRow => k_is
    case ec5_NoRow => k_is
    case ec6_NoRow => k_is
    case ec7_NoRow => k_is
    case ec8_NoRow => k_is
    case is_NoRow_NoRow => first | kit_is | k_is
    case ec1_TooMany => k_is
    case ec2_TooMany => k_is
    case ec3_TooMany => k_is
    case ec4_TooMany => k_is
    case ec5_TooMany => k_is
    case ec6_TooMany => k_is
    case ec7_TooMany => k_is
    case ec8_TooMany => k_is
    case is_NoRow_TooMany => first | kit_is | k_is
    case ec1_NoWay => k_is
    case ec2_NoWay => k_is
    case ec3_NoWay => k_is
    case ec4_NoWay => k_is
    case ec5_NoWay => k_is
    case ec6_NoWay => k_is
    case ec7_NoWay => k_is
    case ec8_NoWay => k_is
    case is_NoRow_NoWay => first | kit_is | k_is
    case ec1_NoWorld => k_is
    case ec2_NoWorld => k_is
    case ec3_NoWorld => k_is
    case ec4_NoWorld => k_is
    case ec5_NoWorld => k_is
    case ec6_NoWorld => k_is
    case ec7_NoWorld => k_is
    case ec8_NoWorld => k_is
    case is_NoRow_NoWorld => first | kit_is | k_is
    case ec1_NoErrand => k_is
    case ec2_NoErrand => k_is
    case ec3_NoErrand => k_is
    case ec4_NoErrand => k_is
    case ec5_NoErrand => k_is
    case ec6_NoErrand => k_is
    case ec7_NoErrand => k_is
    case ec8_NoErrand => k_is
    case is_NoRow_NoErrand => first | kit_is | k_is
    case ec1_NoBook => k_is
    case ec2_NoBook => k_is
    case ec3_NoBook => k_is
    case ec4_NoBook => k_is
    case ec5_NoBook => k_is
    case ec6_NoBook => k_is
    case ec7_NoBook => k_is
    case ec8_NoBook => k_is
    case is_NoRow_NoBook => first | kit_is | k_is
    case ec1_BadText => k_is
    case ec2_BadText => k_is
    case ec3_BadText => k_is
    case ec4_BadText => k_is
    case ec5_BadText => k_is
    case ec6_BadText => k_is
    case ec7_BadText => k_is
    case ec8_BadText => k_is
    case is_NoRow_BadText => first | kit_is | k_is
    case is_TooMany_NoRow => first | kit_is | k_is
    case is_TooMany_TooMany => first | kit_is | k_is
    case is_TooMany_NoWay => first | kit_is | k_is
    case is_TooMany_NoWorld => first | kit_is | k_is
    case is_TooMany_NoErrand => first | kit_is | k_is
    case is_TooMany_NoBook => first | kit_is | k_is
    case is_TooMany_BadText => first | kit_is | k_is
    case is_NoWay_NoRow => first | kit_is | k_is
    case is_NoWay_TooMany => first | kit_is | k_is
    case is_NoWay_NoWay => first | kit_is | k_is
    case is_NoWay_NoWorld => first | kit_is | k_is
    case is_NoWay_NoErrand => first | kit_is | k_is
    case is_NoWay_NoBook => first | kit_is | k_is
    case is_NoWay_BadText => first | kit_is | k_is
    case is_NoWorld_NoRow => first | kit_is | k_is
    case is_NoWorld_TooMany => first | kit_is | k_is
    case is_NoWorld_NoWay => first | kit_is | k_is
    case is_NoWorld_NoWorld => first | kit_is | k_is
    case is_NoWorld_NoErrand => first | kit_is | k_is
    case is_NoWorld_NoBook => first | kit_is | k_is
    case is_NoWorld_BadText => first | kit_is | k_is
    case is_NoErrand_NoRow => first | kit_is | k_is
    case is_NoErrand_TooMany => first | kit_is | k_is
    case is_NoErrand_NoWay => first | kit_is | k_is
    case is_NoErrand_NoWorld => first | kit_is | k_is
    case is_NoErrand_NoErrand => first | kit_is | k_is
    case is_NoErrand_NoBook => first | kit_is | k_is
    case is_NoErrand_BadText => first | kit_is | k_is
    case is_NoBook_NoRow => first | kit_is | k_is
    case is_NoBook_TooMany => first | kit_is | k_is
    case is_NoBook_NoWay => first | kit_is | k_is
    case is_NoBook_NoWorld => first | kit_is | k_is
    case is_NoBook_NoErrand => first | kit_is | k_is
    case is_NoBook_NoBook => first | kit_is | k_is
    case is_NoBook_BadText => first | kit_is | k_is
    case is_BadText_NoRow => first | kit_is | k_is
    case is_BadText_TooMany => first | kit_is | k_is
    case is_BadText_NoWay => first | kit_is | k_is
    case is_BadText_NoWorld => first | kit_is | k_is
    case is_BadText_NoErrand => first | kit_is | k_is
    case is_BadText_NoBook => first | kit_is | k_is
    case is_BadText_BadText => first | kit_is | k_is
    case hd_WayError_NoRow => first | kts_exm | k_is
    case hd_WayError_TooMany => first | kts_exm | k_is
    case hd_WayError_NoWay => first | kts_exm | k_is
    case hd_WayError_NoWorld => first | kts_exm | k_is
    case hd_WayError_NoErrand => first | kts_exm | k_is
    case hd_WayError_NoBook => first | kts_exm | k_is
    case hd_WayError_BadText => first | kts_exm | k_is
    case xp_NoRow1 => first | k_exc | k_is
    case xp_NoRow2 => k_is
    case xp_NoRow3 => k_is
    case xp_NoRow4 => k_is
    case xp_NoWay1 => first | k_exc | k_is
    case xp_NoWay2 => k_is
    case xp_NoWay3 => k_is
    case xp_NoWay4 => k_is
    case xf_mostn_TooMany => k_is
    case xf_wordn_NoWorld => k_is
    case xf_wordn_NoBook => k_is
    case xf_namen_NoErrand => k_is
    case xf_atn_BadText => k_is
    case n_ValueError => k_is
    case is_ValueError_NoRow => first | kit_is | k_is
    case is_ValueError_TooMany => first | kit_is | k_is
    case is_ValueError_NoWay => first | kit_is | k_is
    case is_ValueError_NoWorld => first | kit_is | k_is
    case is_ValueError_NoErrand => first | kit_is | k_is
    case is_ValueError_NoBook => first | kit_is | k_is
    case is_ValueError_BadText => first | kit_is | k_is
    case is_WayError_NoRow => first | kit_is | k_is
    case is_WayError_TooMany => first | kit_is | k_is
    case is_WayError_NoWay => first | kit_is | k_is
    case is_WayError_NoWorld => first | kit_is | k_is
    case is_WayError_NoErrand => first | kit_is | k_is
    case is_WayError_NoBook => first | kit_is | k_is
    case is_WayError_BadText => first | kit_is | k_is
    case xb_WayError1 => k_is
    case xb_WayError2 => k_is
    case xb_WayError3 => k_is
    case xl_BadText => k_is
    case xr_BadText => decide +kernel
    case xs_BadText => k_is
    case xsb_BadText => k_is
    case xty_BadText => k_is
    case xk_BadText => k_is
    case i_BadText_init => k_is
    case tf_BadText_init => k_is
    case n_BadText_init => k_is
    case l_BadText_init => k_is
    case c_BadText_init => k_is
    case k_BadText_init => k_is
    case xl_NoBook => k_is
    case xr_NoBook => decide +kernel
    case xs_NoBook => k_is
    case xsb_NoBook => k_is
    case xty_NoBook => k_is
    case xk_NoBook => k_is
    case i_NoBook_init => k_is
    case tf_NoBook_init => k_is
    case n_NoBook_init => k_is
    case l_NoBook_init => k_is
    case c_NoBook_init => k_is
    case k_NoBook_init => k_is
    case xl_NoErrand => k_is
    case xr_NoErrand => decide +kernel
    case xs_NoErrand => k_is
    case xsb_NoErrand => k_is
    case xty_NoErrand => k_is
    case xk_NoErrand => k_is
    case i_NoErrand_init => k_is
    case tf_NoErrand_init => k_is
    case n_NoErrand_init => k_is
    case l_NoErrand_init => k_is
    case c_NoErrand_init => k_is
    case k_NoErrand_init => k_is
    case xl_NoWorld => k_is
    case xr_NoWorld => decide +kernel
    case xs_NoWorld => k_is
    case xsb_NoWorld => k_is
    case xty_NoWorld => k_is
    case xk_NoWorld => k_is
    case i_NoWorld_init => k_is
    case tf_NoWorld_init => k_is
    case n_NoWorld_init => k_is
    case l_NoWorld_init => k_is
    case c_NoWorld_init => k_is
    case k_NoWorld_init => k_is
    case xl_TooMany => k_is
    case xr_TooMany => decide +kernel
    case xs_TooMany => k_is
    case xsb_TooMany => k_is
    case xty_TooMany => k_is
    case xk_TooMany => k_is
    case i_TooMany_init => k_is
    case tf_TooMany_init => k_is
    case n_TooMany_init => k_is
    case l_TooMany_init => k_is
    case c_TooMany_init => k_is
    case k_TooMany_init => k_is
    case a_law_box => k_is
    case l_law_box => k_is
    case c_law_box => k_is
    case k_law_box => k_is
    case a_law_take => k_is
    case l_law_take => k_is
    case c_law_take => k_is
    case k_law_take => k_is
    case a_law_taken => k_is
    case l_law_taken => k_is
    case c_law_taken => k_is
    case k_law_taken => k_is
    case a_law_name => k_is
    case l_law_name => k_is
    case c_law_name => k_is
    case k_law_name => k_is
    case a_law_kinds => k_is
    case l_law_kinds => k_is
    case c_law_kinds => k_is
    case k_law_kinds => k_is
    case a_law_caught => k_is
    case l_law_caught => k_is
    case c_law_caught => k_is
    case k_law_caught => k_is
    case a_law_fields => k_is
    case l_law_fields => k_is
    case c_law_fields => k_is
    case k_law_fields => k_is
    case a_law => k_is
    case l_law => k_is
    case c_law => k_is
    case k_law => k_is
#print axioms PySem.Challenge.cw_unsaidways_k10_refusals_holds
