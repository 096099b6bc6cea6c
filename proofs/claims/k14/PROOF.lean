import PyProof.Rows.All
import OpenK.AllK
import Wide.All
import HandS.Wide
import HandS.ForMost
import HandS.ForExc
import KE.KDictKeyed
import KE.KeyNested
import HandS.TupAny
import HandS.IsInst
import HandS.Conv
import Wide.FinOn
import PyProof.StrOps2
import HandS.Strs
import HandS.Replace
import HandS.SetFor
import HandS.DictTup
import HandS.Small
import KE.KDictPairs
import HandS.Deep
import HandS.Style
import HandS.Flow
import KE.BitLaws
import KE.GoesEnum
import HandS.More
import HandS.Zip
import HandS.SortInts
import HandS.TryOnly
import HandS.Defaults
import HandS.TupSets
import KE.KDictZip
import PyProof.EnumStmt
import HandS.MapObj
import HandS.ExcInit
import HandS.ExcOwn
import HandS.ExcField
import HandS.ExcIs
import HandS.ExcValue
import HandS.ClsMeth
import HandS.TupLe
import PyProof.WalksMore
import HandS.SetKeys
import PyProof.ReprRoads
import KE.KDictLaws
import HandS.Text
import HandS.Rev
import HandS.TupLen
import KE.KEqDict
import KE.GoesZip
import KE.GoesMore
import HandS.StrMore
import KE.GoesRaise
import KE.OsRunLaw
import PySem.Challenge.RW_unsaidways_k14_texts_of_no_errand_or_tes
set_option Elab.async false
set_option linter.all false
set_option maxRecDepth 100000
set_option maxHeartbeats 4000000
namespace Z
open PySem PySem.Spec PyProof.Rows L2
/-- a tuple of texts alone, or of pairs of whole numbers alone: such a one is looked through by .index, or made a dict, so more is known of it -/
def idxS (ds : List PyData) : Bool := !ds.isEmpty && ((ds.all fun d => match d with
  | .str _ => true
  | _ => false) || ds.all fun d => match d with
  | .tuple [.int _, .int _] => true
  | _ => false)
mutual
/-- data as it lies: lists and tuples of ours -/
inductive Dp (K : PySem.W.Frag) (H : Hp) : V → PyData → Prop
  | non : Dp K H .non .none
  | bl (b : Bool) : Dp K H (.bl b) (.bool b)
  | int (i : Int) : Dp K H (.int i) (.int i)
  | str (x : Str) : Dp K H (.str x) (.str x)
  | lst {a : Addr} {xs : List V} {ds : List PyData} : H a = some (.lst xs) → DpAll K H xs ds → Dp K H (.ref a) (.list ds)
  | tup {a : Addr} {xs : List V} {ds : List PyData} : H a = some (.tup xs) → idxS ds = false → DpAll K H xs ds → Dp K H (.ref a) (.tuple ds)
  | ftup {a : Addr} {o : Obj} {xs : List V} {ds : List PyData} : H a = some (.frz o (.tup xs)) → o.dict = none → idxS ds = true → DpAll K H xs ds → Dp K H (.ref a) (.tuple ds)
  | ktup {a : Addr} {o : Obj} {its : Array Value} {n : Nat} {xs : List V} {ds : List PyData} : K.lookup a = some o → o.dict = none → o.cls = .type "tuple" ∧ o.data = .seq its n ∧ its.size ≤ sizeLine ∧ Vals xs its.toList → idxS ds = true → DpAll K H xs ds → Dp K H (.ref a) (.tuple ds)
inductive DpAll (K : PySem.W.Frag) (H : Hp) : List V → List PyData → Prop
  | nil : DpAll K H [] []
  | cons {v : V} {vs : List V} {d : PyData} {ds : List PyData} : Dp K H v d → DpAll K H vs ds → DpAll K H (v :: vs) (d :: ds)
end
mutual
theorem dpTo {K : PySem.W.Frag} {H : Hp} : ∀ {v : V} {x : PyData}, Dp K H v x → L2.Dp K H v x
  | _, _, .non => .non
  | _, _, .bl b => .bl b
  | _, _, .int i => .int i
  | _, _, .str x => .str x
  | _, _, .lst h t => .lst (SqL.of h) (dpAllTo t)
  | _, _, .tup h _ t => .tup (SqT.of h) (dpAllTo t)
  | _, _, .ftup h _ _ t => .tup (.inl (.inr ⟨_, h⟩)) (dpAllTo t)
  | _, _, .ktup h _ q _ t => .tup (.inr ⟨_, _, _, h, q⟩) (dpAllTo t)
theorem dpAllTo {K : PySem.W.Frag} {H : Hp} : ∀ {v : List V} {x : List PyData}, DpAll K H v x → L2.DpAll K H v x
  | _, _, .nil => .nil
  | _, _, .cons h t => .cons (dpTo h) (dpAllTo t)
end
theorem dpTup {K : PySem.W.Frag} {H : Hp} {v : V} {ds : List PyData} (h : Dp K H v (.tuple ds)) : ∃ a vs, v = .ref a ∧ SqT K H a vs ∧ DpAll K H vs ds := by
  cases h with
  | tup h _ t => exact ⟨_, _, rfl, SqT.of h, t⟩
  | ftup h _ _ t => exact ⟨_, _, rfl, .inl (.inr ⟨_, h⟩), t⟩
  | ktup h _ q _ t => exact ⟨_, _, rfl, .inr ⟨_, _, _, h, q⟩, t⟩
/-- a value with what it owns; gL, gT: a list, a tuple of another's, to be looked at -/
inductive O where
  | d (x : PyData)
  | gL (ds : List PyData)
  | gT (ds : List PyData)
  | lst (xs : List O)
  | tup (xs : List O)
  | dK (kvs : List (Key × O))
  | dT (kvs : List (List Key × O))
  | ins (c : Str) (fs : List (Str × O))
  | gD (kvs : List (List Key × PyData))
  | gK (kvs : List (Key × PyData))
  | pin (u : HO)
  | fr (o : O)
  | mem (g : List Key → Option PyData)
  | hole (a : Addr)
  | jk
  | exc (c : Str) (fs : List (Str × PyData))
  | dN (kds : List PyData) (os : List O)
  | gN (kds vds : List PyData)
mutual
def nkOf : PyData → Option NestedKey
  | .int i => some (.num i)
  | .bool b => some (.num (if b = true then 1 else 0))
  | .tuple ds => (nkL ds).map .tup
  | _ => none
def nkL : List PyData → Option (List NestedKey)
  | [] => some []
  | d :: r => match nkOf d, nkL r with
    | some k, some ks => some (k :: ks)
    | _, _ => none
end
/-- a dict whose keys are nested tuples of ints: its keys, where their tuples stand, its values -/
def ndO (a : Addr) (ks : List NestedKey) (kas : List Addr) (vs : List V) : HO := .ext fun h => ks.Nodup ∧ (∀ k ∈ ks, k.depth ≤ 8) ∧ kas.length = ks.length ∧ vs.length = ks.length ∧ ks.length ≤ sizeLine ∧ (a == sysModules) = false ∧
  ∃ (o : Obj) (es : Array DictEntry) (ep : Nat) (us : List Value), h.get? a = some o ∧ o.ExactDict ∧ o.data = .dict es ep ∧ Vals vs us ∧ ∀ w : World, es.toList = (ks.zip (kas.zip us)).map fun x => ⟨x.1.hash w, .ref x.2.1, x.2.2⟩
/-- an exception that was caught, at a -/
def exH (a : Addr) (cls : Value) (d : Option Addr) : HO := .ext fun h => ∃ (oe : Obj) (vs : Array Value), h.get? a = some oe ∧ Zc cls d oe ∧ oe.data = .fields vs
/-- its fields -/
def XdF (K : PySem.W.Frag) (H : Hp) (d : Option Addr) (fs : List (Str × PyData)) : Prop := (fs = [] ∧ d = none) ∨ ∃ (dd : Addr) (fvs : List (Str × V)), d = some dd ∧ H dd = some (.xd fvs) ∧ fvs.map (·.1) = fs.map (·.1) ∧ DpAll K H (fvs.map (·.2)) (fs.map (·.2))
/-- the same keys, each once -/
def Keq {α : Type} (a b : List α) : Prop := a = b ∧ b.Nodup
/-- no data by itself -/
def O.nd : O → Bool
  | .d _ => false
  | .fr _ => false
  | _ => true
/-- what stands still: objects that do not change, and dicts that only take in what a function tells -/
structure Fz where
  h : Hp
  m : Addr → Option (List Key → Option PyData)
structure Fz.le (F F' : Fz) : Prop where
  h : Same F.h F'.h
  m : ∀ a g, F.m a = some g → F'.m a = some g
theorem Fz.le.refl (F : Fz) : F.le F := ⟨Same.refl _, fun _ _ h => h⟩
/-- a memo tells of few keys -/
def FinG (g : List Key → Option PyData) : Prop := ∃ dom : List (List Key), dom.length < 16777216 ∧ ∀ k, (g k).isSome = true → k ∈ dom
structure MemAt (K : PySem.W.Frag) (Hf : Hp) (kvs : List (List Key × V)) (g : List Key → Option PyData) : Prop where
  nd : (kvs.map (·.1)).Nodup
  fin : FinG g
  val : ∀ p ∈ kvs, ∃ x, g p.1 = some x ∧ Dp K Hf p.2 x
structure Fz.on (K : PySem.W.Frag) (F : Fz) (H : Hp) : Prop where
  same : Same F.h H
  mem : ∀ a g, F.m a = some g → F.h a = none ∧ ∃ kvs, H a = some (.dT kvs) ∧ MemAt K F.h kvs g
def Fz.no (F : Fz) (a : Addr) : Prop := F.h a = none ∧ F.m a = none
mutual
inductive Ow (K : PySem.W.Frag) (mg : Str → Option Value) (F : Fz) : Hp → V → O → List Addr → Prop
  | d {H : Hp} {v : V} {x : PyData} : Dp K F.h v x → Ow K mg F H v (.d x) []
  | gL {H : Hp} {a : Addr} {vs : List V} {ds : List PyData} : SqL K F.h a vs → DpAll K F.h vs ds → Ow K mg F H (.ref a) (.gL ds) []
  | gT {H : Hp} {a : Addr} {vs : List V} {ds : List PyData} : SqT K F.h a vs → DpAll K F.h vs ds → Ow K mg F H (.ref a) (.gT ds) []
  | pin {H : Hp} {a : Addr} {u : HO} : F.h a = some u → Ow K mg F H (.ref a) (.pin u) []
  | gD {H : Hp} {a : Addr} {o : Obj} {kvs : List (List Key × V)} {kds : List (List Key × PyData)} : F.h a = some (.frz o (.dT kvs)) → kvs.map (·.1) = kds.map (·.1) → DpAll K F.h (kvs.map (·.2)) (kds.map (·.2)) → Ow K mg F H (.ref a) (.gD kds) []
  | gK {H : Hp} {a : Addr} {o : Obj} {kvs : List (Key × V)} {kds : List (Key × PyData)} : F.h a = some (.frz o (.dK kvs)) → kvs.map (·.1) = kds.map (·.1) → DpAll K F.h (kvs.map (·.2)) (kds.map (·.2)) → Ow K mg F H (.ref a) (.gK kds) []
  | fr {H : Hp} {v : V} {o : O} {as : List Addr} : o.nd = true → Ow K mg F F.h v o as → Ow K mg F H v (.fr o) []
  | mem {H : Hp} {a : Addr} {g : List Key → Option PyData} : F.m a = some g → Ow K mg F H (.ref a) (.mem g) []
  | hole {H : Hp} {a : Addr} : Ow K mg F H (.ref a) (.hole a) []
  | jk {H : Hp} {a : Addr} : Ow K mg F H (.ref a) .jk []
  | exc {H : Hp} {a C : Addr} {c : Str} {d : Option Addr} {fs : List (Str × PyData)} : F.h a = some (exH a (.ref C) d) → mg c = some (.ref C) → XdF K F.h d fs → Ow K mg F H (.ref a) (.exc c fs) []
  | lst {H : Hp} {a : Addr} {vs : List V} {os : List O} {as : List Addr} : H a = some (.lst vs) → OwL K mg F H vs os as → Ow K mg F H (.ref a) (.lst os) (a :: as)
  | tup {H : Hp} {a : Addr} {vs : List V} {os : List O} {as : List Addr} : H a = some (.tup vs) → OwL K mg F H vs os as → Ow K mg F H (.ref a) (.tup os) (a :: as)
  | dK {H : Hp} {a : Addr} {kvs : List (Key × V)} {kos : List (Key × O)} {as : List Addr} : H a = some (.dK kvs) → Keq (kvs.map (·.1)) (kos.map (·.1)) → OwL K mg F H (kvs.map (·.2)) (kos.map (·.2)) as → Ow K mg F H (.ref a) (.dK kos) (a :: as)
  | dT {H : Hp} {a : Addr} {kvs : List (List Key × V)} {kos : List (List Key × O)} {as : List Addr} : H a = some (.dT kvs) → Keq (kvs.map (·.1)) (kos.map (·.1)) → OwL K mg F H (kvs.map (·.2)) (kos.map (·.2)) as → Ow K mg F H (.ref a) (.dT kos) (a :: as)
  | ins {H : Hp} {a C dx : Addr} {c : Str} {fvs : List (Str × V)} {fos : List (Str × O)} {as : List Addr} : H a = some (.ins C dx fvs) → mg c = some (.ref C) → fvs.map (·.1) = fos.map (·.1) → OwL K mg F H (fvs.map (·.2)) (fos.map (·.2)) as → Ow K mg F H (.ref a) (.ins c fos) (a :: as)
  | gN {H : Hp} {a b : Addr} {o : Obj} {ks : List NestedKey} {kas : List Addr} {kds vds : List PyData} {vs : List V} : F.h a = some (.frz o (ndO b ks kas vs)) → nkL kds = some ks → DpAll K F.h (kas.map V.ref) kds → DpAll K F.h vs vds → Ow K mg F H (.ref a) (.gN kds vds) []
  | dN {H : Hp} {a b : Addr} {ks : List NestedKey} {kas : List Addr} {kds : List PyData} {vs : List V} {os : List O} {as : List Addr} : H a = some (ndO b ks kas vs) → nkL kds = some ks → kas.length = kds.length → OwL K mg F H (kas.map V.ref ++ vs) (kds.map O.d ++ os) as → Ow K mg F H (.ref a) (.dN kds os) (a :: as)
inductive OwL (K : PySem.W.Frag) (mg : Str → Option Value) (F : Fz) : Hp → List V → List O → List Addr → Prop
  | nil {H : Hp} : OwL K mg F H [] [] []
  | cons {H : Hp} {v : V} {o : O} {as bs : List Addr} {vs : List V} {os : List O} : Ow K mg F H v o as → OwL K mg F H vs os bs → OwL K mg F H (v :: vs) (o :: os) (as ++ bs)
end
section
variable {K : PySem.W.Frag} {mg : Str → Option Value} {Hf Hf' : Fz} {H H' : Hp}
theorem sameT {a : Addr} {xs : List V} (e : Same H H') (h : SqT K H a xs) : SqT K H' a xs := by
  rcases h with (h | ⟨o, h⟩) | h
  · exact .inl (.inl (e _ _ h))
  · exact .inl (.inr ⟨o, e _ _ h⟩)
  · exact .inr h
mutual
theorem dpMono (e : Same H H') : ∀ {v : V} {x : PyData}, Dp K H v x → Dp K H' v x
  | _, _, .non => .non
  | _, _, .bl b => .bl b
  | _, _, .int i => .int i
  | _, _, .str x => .str x
  | _, _, .lst h t => .lst (e _ _ h) (dpAllMono e t)
  | _, _, .tup h i t => .tup (e _ _ h) i (dpAllMono e t)
  | _, _, .ftup h i j t => .ftup (e _ _ h) i j (dpAllMono e t)
  | _, _, .ktup h i q j t => .ktup h i q j (dpAllMono e t)
theorem dpAllMono (e : Same H H') : ∀ {v : List V} {x : List PyData}, DpAll K H v x → DpAll K H' v x
  | _, _, .nil => .nil
  | _, _, .cons h t => .cons (dpMono e h) (dpAllMono e t)
end
theorem xdMono {d : Option Addr} {fs : List (Str × PyData)} (e : Same H H') (h : XdF K H d fs) : XdF K H' d fs := by
  rcases h with h | ⟨dd, fvs, h1, h2, h3, h4⟩
  · exact .inl h
  · exact .inr ⟨dd, fvs, h1, e _ _ h2, h3, dpAllMono e h4⟩
mutual
theorem owThere : ∀ {v : V} {o : O} {as : List Addr}, Ow K mg Hf H v o as → ∀ a ∈ as, ∃ u, H a = some u
  | _, _, _, .d _ => fun a h => nomatch h
  | _, _, _, .gL _ _ => fun a h => nomatch h
  | _, _, _, .gT _ _ => fun a h => nomatch h
  | _, _, _, .gD _ _ _ => fun a h => nomatch h
  | _, _, _, .gK _ _ _ => fun a h => nomatch h
  | _, _, _, .gN _ _ _ _ => fun a h => nomatch h
  | _, _, _, .pin _ => fun a h => nomatch h
  | _, _, _, .fr _ _ => fun a h => nomatch h
  | _, _, _, .mem _ => fun a h => nomatch h
  | _, _, _, .hole => fun a h => nomatch h
  | _, _, _, .jk => fun a h => nomatch h
  | _, _, _, .exc _ _ _ => fun a h => nomatch h
  | _, _, _, .lst h t => fun a m => by
    rcases List.mem_cons.mp m with e | m
    · exact ⟨_, e ▸ h⟩
    · exact owLThere t a m
  | _, _, _, .tup h t => fun a m => by
    rcases List.mem_cons.mp m with e | m
    · exact ⟨_, e ▸ h⟩
    · exact owLThere t a m
  | _, _, _, .dK h _ t => fun a m => by
    rcases List.mem_cons.mp m with e | m
    · exact ⟨_, e ▸ h⟩
    · exact owLThere t a m
  | _, _, _, .dT h _ t => fun a m => by
    rcases List.mem_cons.mp m with e | m
    · exact ⟨_, e ▸ h⟩
    · exact owLThere t a m
  | _, _, _, .ins h _ _ t => fun a m => by
    rcases List.mem_cons.mp m with e | m
    · exact ⟨_, e ▸ h⟩
    · exact owLThere t a m
  | _, _, _, .dN h _ _ t => fun a m => by
    rcases List.mem_cons.mp m with e | m
    · exact ⟨_, e ▸ h⟩
    · exact owLThere t a m
theorem owLThere : ∀ {v : List V} {o : List O} {as : List Addr}, OwL K mg Hf H v o as → ∀ a ∈ as, ∃ u, H a = some u
  | _, _, _, .nil => fun a h => nomatch h
  | _, _, _, .cons h t => fun a m => by
    rcases List.mem_append.mp m with m | m
    · exact owThere h a m
    · exact owLThere t a m
end
mutual
theorem owMono (e : Hf.le Hf') : ∀ {H H' : Hp} {v : V} {o : O} {as : List Addr}, Ow K mg Hf H v o as → (∀ a ∈ as, H' a = H a) → Ow K mg Hf' H' v o as
  | _, _, _, _, _, .d h, _ => .d (dpMono e.h h)
  | _, _, _, _, _, .gL h t, _ => .gL (e.h.seq h) (dpAllMono e.h t)
  | _, _, _, _, _, .gT h t, _ => .gT (sameT e.h h) (dpAllMono e.h t)
  | _, _, _, _, _, .gD h k t, _ => .gD (e.h _ _ h) k (dpAllMono e.h t)
  | _, _, _, _, _, .gK h k t, _ => .gK (e.h _ _ h) k (dpAllMono e.h t)
  | _, _, _, _, _, .gN h k t u, _ => .gN (e.h _ _ h) k (dpAllMono e.h t) (dpAllMono e.h u)
  | _, _, _, _, _, .pin h, _ => .pin (e.h _ _ h)
  | _, _, _, _, _, .fr n h, _ => .fr n (owMono e h fun a m => by obtain ⟨u, q⟩ := owThere h a m; exact (e.h _ _ q).trans q.symm)
  | _, _, _, _, _, .mem h, _ => .mem (e.m _ _ h)
  | _, _, _, _, _, .hole, _ => .hole
  | _, _, _, _, _, .jk, _ => .jk
  | _, _, _, _, _, .exc h c t, _ => .exc (e.h _ _ h) c (xdMono e.h t)
  | _, _, _, _, _, .lst h t, f => .lst ((f _ List.mem_cons_self).trans h) (owLMono e t fun a m => f a (List.mem_cons_of_mem _ m))
  | _, _, _, _, _, .tup h t, f => .tup ((f _ List.mem_cons_self).trans h) (owLMono e t fun a m => f a (List.mem_cons_of_mem _ m))
  | _, _, _, _, _, .dK h k t, f => .dK ((f _ List.mem_cons_self).trans h) k (owLMono e t fun a m => f a (List.mem_cons_of_mem _ m))
  | _, _, _, _, _, .dT h k t, f => .dT ((f _ List.mem_cons_self).trans h) k (owLMono e t fun a m => f a (List.mem_cons_of_mem _ m))
  | _, _, _, _, _, .ins h c k t, f => .ins ((f _ List.mem_cons_self).trans h) c k (owLMono e t fun a m => f a (List.mem_cons_of_mem _ m))
  | _, _, _, _, _, .dN h k l t, f => .dN ((f _ List.mem_cons_self).trans h) k l (owLMono e t fun a m => f a (List.mem_cons_of_mem _ m))
theorem owLMono (e : Hf.le Hf') : ∀ {H H' : Hp} {v : List V} {o : List O} {as : List Addr}, OwL K mg Hf H v o as → (∀ a ∈ as, H' a = H a) → OwL K mg Hf' H' v o as
  | _, _, _, _, _, .nil, _ => .nil
  | _, _, _, _, _, .cons h t, f => .cons (owMono e h fun a m => f a (List.mem_append_left _ m)) (owLMono e t fun a m => f a (List.mem_append_right _ m))
end
theorem owLLen : ∀ {vs : List V} {os : List O} {as : List Addr}, OwL K mg Hf H vs os as → vs.length = os.length
  | _, _, _, .nil => rfl
  | _, _, _, .cons _ t => by simp [owLLen t]
theorem owLApp : ∀ {vs : List V} {os : List O} {as : List Addr} {vs' : List V} {os' : List O} {as' : List Addr}, OwL K mg Hf H vs os as → OwL K mg Hf H vs' os' as' → OwL K mg Hf H (vs ++ vs') (os ++ os') (as ++ as')
  | _, _, _, _, _, _, .nil, s => s
  | _, _, _, _, _, _, .cons h t, s => by rw [List.append_assoc]; exact .cons h (owLApp t s)
theorem owLSplit : ∀ {vs : List V} {os : List O} {as : List Addr} {vs' : List V} {os' : List O}, vs.length = os.length → OwL K mg Hf H (vs ++ vs') (os ++ os') as → ∃ a1 a2, as = a1 ++ a2 ∧ OwL K mg Hf H vs os a1 ∧ OwL K mg Hf H vs' os' a2
  | [], [], as, vs', os', _, h => ⟨[], as, rfl, .nil, h⟩
  | v :: vs, o :: os, _, vs', os', e, h => by
    cases h with
    | cons h t =>
      obtain ⟨a1, a2, rfl, h1, h2⟩ := owLSplit (by simpa using e) t
      exact ⟨_ ++ a1, a2, by rw [List.append_assoc], .cons h h1, h2⟩
  | [], _ :: _, _, _, _, e, _ => by simp at e
  | _ :: _, [], _, _, _, e, _ => by simp at e
def frz (Hf : Fz) (H : Hp) (as : List Addr) : Fz := ⟨fun b => if b ∈ as then H b else Hf.h b, Hf.m⟩
theorem frzSame (s : Same Hf.h H) (as : List Addr) : Hf.le (frz Hf H as) := ⟨fun b o e => by
  show (if b ∈ as then H b else Hf.h b) = some o
  by_cases h : b ∈ as
  · rw [if_pos h]; exact s b o e
  · rw [if_neg h]; exact e, fun _ _ h => h⟩
theorem memMono {K : PySem.W.Frag} {Hf Hf' : Hp} {kvs : List (List Key × V)} {g : List Key → Option PyData} (s : Same Hf Hf') (h : MemAt K Hf kvs g) : MemAt K Hf' kvs g := ⟨h.nd, h.fin, fun p m => by
  obtain ⟨x, e, d⟩ := h.val p m
  exact ⟨x, e, dpMono s d⟩⟩
theorem frzIn (s : Hf.on K H) (as : List Addr) (hn : ∀ a ∈ as, Hf.m a = none) : (frz Hf H as).on K H := ⟨fun b o e => by
  have e : (if b ∈ as then H b else Hf.h b) = some o := e
  by_cases h : b ∈ as
  · rw [if_pos h] at e; exact e
  · rw [if_neg h] at e; exact s.same b o e, fun a g e => by
  have e : Hf.m a = some g := e
  obtain ⟨h1, kvs, h2, h3⟩ := s.mem a g e
  refine ⟨?_, kvs, h2, memMono (frzSame s.same as).h h3⟩
  show (if a ∈ as then H a else Hf.h a) = none
  rw [if_neg fun m => by rw [hn a m] at e; cases e]
  exact h1⟩
theorem frzMono (s : Same Hf.h H) {as bs : List Addr} (m : ∀ a ∈ as, a ∈ bs) : (frz Hf H as).le (frz Hf H bs) := ⟨fun b o e => by
  have e : (if b ∈ as then H b else Hf.h b) = some o := e
  show (if b ∈ bs then H b else Hf.h b) = some o
  by_cases h : b ∈ as
  · rw [if_pos h] at e; rw [if_pos (m b h)]; exact e
  · rw [if_neg h] at e
    by_cases h' : b ∈ bs
    · rw [if_pos h']; exact s b o e
    · rw [if_neg h']; exact e, fun _ _ h => h⟩
theorem frzOn (s : Same Hf.h H) (as : List Addr) : Same (frz Hf H as).h H := fun b o e => by
  have e : (if b ∈ as then H b else Hf.h b) = some o := e
  by_cases h : b ∈ as
  · rw [if_pos h] at e; exact e
  · rw [if_neg h] at e; exact s b o e
theorem frzAt {a : Addr} {as : List Addr} (m : a ∈ as) : (frz Hf H as).h a = H a := by
  show (if a ∈ as then H a else Hf.h a) = _
  rw [if_pos m]
theorem frzNot {a : Addr} {as : List Addr} (m : a ∉ as) (h : Hf.no a) : (frz Hf H as).no a := ⟨by
  show (if a ∈ as then H a else Hf.h a) = _
  rw [if_neg m]; exact h.1, h.2⟩
mutual
def O.fz : O → Option PyData
  | .d x => some x
  | .lst xs => match O.fzL xs with | some ds => some (.list ds) | none => none
  | .tup xs => match O.fzL xs with | some ds => if idxS ds = true then none else some (.tuple ds) | none => none
  | _ => none
def O.fzL : List O → Option (List PyData)
  | [] => some []
  | x :: xs => match O.fz x, O.fzL xs with | some y, some ys => some (y :: ys) | _, _ => none
end
mutual
theorem owFz (s : Same Hf.h H) : ∀ {v : V} {o : O} {as : List Addr} {x : PyData}, Ow K mg Hf H v o as → o.fz = some x → Dp K (frz Hf H as).h v x
  | _, _, _, x, .d h, e => by
    simp only [O.fz, Option.some.injEq] at e
    subst e
    exact dpMono (frzSame s _).h h
  | _, _, _, x, .lst (os := os) (as := as) h t, e => by
    simp only [O.fz] at e
    cases q : O.fzL os with
    | none => rw [q] at e; cases e
    | some ds =>
      rw [q] at e
      cases e
      refine .lst ?_ (dpAllMono (frzMono s fun a m => List.mem_cons_of_mem _ m).h (owLFz s t q))
      rw [frzAt List.mem_cons_self]
      exact h
  | _, _, _, x, .tup (os := os) (as := as) h t, e => by
    simp only [O.fz] at e
    cases q : O.fzL os with
    | none => rw [q] at e; cases e
    | some ds =>
      rw [q] at e
      simp only at e
      split at e
      · cases e
      rename_i hi
      cases e
      refine .tup ?_ (by simpa using hi) (dpAllMono (frzMono s fun a m => List.mem_cons_of_mem _ m).h (owLFz s t q))
      rw [frzAt List.mem_cons_self]
      exact h
  | _, _, _, x, .gL h t, e => by simp only [O.fz] at e; cases e
  | _, _, _, x, .gT h t, e => by simp only [O.fz] at e; cases e
  | _, _, _, x, .gD h k t, e => by simp only [O.fz] at e; cases e
  | _, _, _, x, .gK h k t, e => by simp only [O.fz] at e; cases e
  | _, _, _, x, .gN h k t u, e => by simp only [O.fz] at e; cases e
  | _, _, _, x, .pin h, e => by simp only [O.fz] at e; cases e
  | _, _, _, x, .fr n h, e => by simp only [O.fz] at e; cases e
  | _, _, _, x, .mem h, e => by simp only [O.fz] at e; cases e
  | _, _, _, x, .hole, e => by simp only [O.fz] at e; cases e
  | _, _, _, x, .jk, e => by simp only [O.fz] at e; cases e
  | _, _, _, x, .exc _ _ _, e => by simp only [O.fz] at e; cases e
  | _, _, _, x, .dK h k t, e => by simp only [O.fz] at e; cases e
  | _, _, _, x, .dT h k t, e => by simp only [O.fz] at e; cases e
  | _, _, _, x, .ins h c k t, e => by simp only [O.fz] at e; cases e
  | _, _, _, x, .dN h k l t, e => by simp only [O.fz] at e; cases e
theorem owLFz (s : Same Hf.h H) : ∀ {v : List V} {o : List O} {as : List Addr} {x : List PyData}, OwL K mg Hf H v o as → O.fzL o = some x → DpAll K (frz Hf H as).h v x
  | _, _, _, x, .nil, e => by
    simp only [O.fzL, Option.some.injEq] at e
    subst e
    exact .nil
  | _, _, _, x, .cons (o := o) (os := os) (as := as) (bs := bs) h t, e => by
    simp only [O.fzL] at e
    cases q1 : o.fz with
    | none => rw [q1] at e; simp at e
    | some d =>
      cases q2 : O.fzL os with
      | none => rw [q1, q2] at e; simp at e
      | some ds =>
        rw [q1, q2] at e
        cases e
        exact .cons (dpMono (frzMono s fun a m => List.mem_append_left _ m).h (owFz s h q1)) (dpAllMono (frzMono s fun a m => List.mem_append_right _ m).h (owLFz s t q2))
end
end
abbrev Roots := List (V × O)
/-- what is owned is no tuple of plain values alone -/
def NF (H : Hp) (a : Addr) : Prop := ∀ xs, H a = some (.tup xs) → ∃ b, V.ref b ∈ xs
structure Rel (K : PySem.W.Frag) (mg : Str → Option Value) (H : Hp) (Ex : List (Addr × HO)) (rs ws : Roots) : Prop where
  ex : ∃ (Hf : Fz) (as : List Addr), Hf.on K H ∧ (∀ e ∈ Ex, H e.1 = some e.2) ∧ OwL K mg Hf H (rs.map (·.1)) (rs.map (·.2)) as ∧ (Ex.map (·.1) ++ as).Nodup ∧ (∀ a ∈ Ex.map (·.1) ++ as, Hf.no a ∧ NF H a) ∧ ∀ p ∈ ws, ∃ bs, Ow K mg Hf H p.1 p.2 bs
instance {K : PySem.W.Frag} {F : Fz} {H : Hp} : CoeFun (F.on K H) (fun _ => ∀ b o, F.h b = some o → H b = some o) := ⟨fun s => s.same⟩
theorem Fz.on.seq {K : PySem.W.Frag} {F : Fz} {H : Hp} {a : Addr} {vs : List V} (s : F.on K H) (h : SqL K F.h a vs) : SqL K H a vs := s.same.seq h
theorem Fz.on.trans {K : PySem.W.Frag} {F : Fz} {H H' : Hp} (s : F.on K H) (e : Same H H') : F.on K H' := ⟨s.same.trans e, fun a g h => by
  obtain ⟨h1, kvs, h2, h3⟩ := s.mem a g h
  exact ⟨h1, kvs, e _ _ h2, h3⟩⟩
theorem Fz.on.free {K : PySem.W.Frag} {F : Fz} {H : Hp} {p : Addr} (s : F.on K H) (h : H p = none) : F.no p := ⟨s.same.free h, by
  cases q : F.m p with
  | none => rfl
  | some g =>
    obtain ⟨_, kvs, h2, _⟩ := s.mem p g q
    rw [h] at h2; cases h2⟩
theorem Fz.on.upd {K : PySem.W.Frag} {F : Fz} {H : Hp} {p : Addr} {o : HO} (s : F.on K H) (h : F.no p) : F.on K (upd H p o) := ⟨fun b u q => by
  rw [upd_ne (ne_of_none q h.1)]; exact s.same b u q, fun a g e => by
  obtain ⟨h1, kvs, h2, h3⟩ := s.mem a g e
  refine ⟨h1, kvs, ?_, h3⟩
  rw [upd_ne fun z => by rw [z, h.2] at e; cases e]
  exact h2⟩
section
variable {K : PySem.W.Frag} {mg : Str → Option Value} {H H' : Hp} {Ex : List (Addr × HO)} {rs rs' ws ws' : Roots}
theorem owLPerm {Hf : Fz} {l l' : Roots} (p : l.Perm l') : ∀ {as : List Addr}, OwL K mg Hf H (l.map (·.1)) (l.map (·.2)) as → ∃ as', OwL K mg Hf H (l'.map (·.1)) (l'.map (·.2)) as' ∧ as.Perm as' := by
  induction p with
  | nil => intro as h; exact ⟨as, h, .refl _⟩
  | cons x p ih =>
    intro as h
    cases h with
    | cons h t =>
      obtain ⟨as', t', q⟩ := ih t
      exact ⟨_, .cons h t', q.append_left _⟩
  | swap x y l =>
    intro as h
    cases h with
    | cons h t =>
      cases t with
      | cons h2 t2 =>
        refine ⟨_, .cons h2 (.cons h t2), ?_⟩
        rw [← List.append_assoc, ← List.append_assoc]
        exact List.perm_append_comm.append_right _
  | trans p q ih1 ih2 =>
    intro as h
    obtain ⟨a1, h1, q1⟩ := ih1 h
    obtain ⟨a2, h2, q2⟩ := ih2 h1
    exact ⟨a2, h2, q1.trans q2⟩
theorem Rel.perm (r : Rel K mg H Ex rs ws) (p : rs.Perm rs') : Rel K mg H Ex rs' ws := by
  obtain ⟨Hf, as, s, he, ho, nd, hn, hw⟩ := r.ex
  obtain ⟨as', ho', q⟩ := owLPerm p ho
  have q2 : (Ex.map (·.1) ++ as).Perm (Ex.map (·.1) ++ as') := q.append_left _
  exact ⟨Hf, as', s, he, ho', q2.nodup_iff.mp nd, fun a m => hn a (q2.mem_iff.mpr m), hw⟩
theorem Rel.views (r : Rel K mg H Ex rs ws) (m : ∀ p ∈ ws', p ∈ ws) : Rel K mg H Ex rs ws' := by
  obtain ⟨Hf, as, s, he, ho, nd, hn, hw⟩ := r.ex
  exact ⟨Hf, as, s, he, ho, nd, hn, fun p q => hw p (m p q)⟩
theorem Rel.noviews (r : Rel K mg H Ex rs ws) : Rel K mg H Ex rs [] := r.views fun _ h => nomatch h
/-- a root is seen -/
theorem Rel.see {p : V × O} (r : Rel K mg H Ex (p :: rs) ws) : Rel K mg H Ex (p :: rs) (p :: ws) := by
  obtain ⟨Hf, as, s, he, ho, nd, hn, hw⟩ := r.ex
  refine ⟨Hf, as, s, he, ho, nd, hn, fun q m => ?_⟩
  rcases List.mem_cons.mp m with e | m
  · subst e
    cases ho with
    | cons h t => exact ⟨_, h⟩
  · exact hw q m
theorem Rel.drop {p : V × O} (r : Rel K mg H Ex (p :: rs) ws) : Rel K mg H Ex rs ws := by
  obtain ⟨Hf, as, s, he, ho, nd, hn, hw⟩ := r.ex
  cases ho with
  | cons h t =>
    rename_i a1 a2
    have sub : (Ex.map (·.1) ++ a2).Sublist (Ex.map (·.1) ++ (a1 ++ a2)) := (List.sublist_append_right a1 a2).append_left _
    exact ⟨Hf, a2, s, he, t, nd.sublist sub, fun a m => hn a (sub.subset m), hw⟩
theorem Rel.toView {p : V × O} (r : Rel K mg H Ex (p :: rs) ws) : Rel K mg H Ex rs (p :: ws) := r.see.drop
theorem Rel.dropL (l : Roots) (r : Rel K mg H Ex (l ++ rs) ws) : Rel K mg H Ex rs ws := by
  induction l with
  | nil => exact r
  | cons p l ih => exact ih r.drop
/-- data may be had twice -/
theorem Rel.dup {v : V} {x : PyData} (r : Rel K mg H Ex ((v, .d x) :: rs) ws) : Rel K mg H Ex ((v, .d x) :: (v, .d x) :: rs) ws := by
  obtain ⟨Hf, as, s, he, ho, nd, hn, hw⟩ := r.ex
  cases ho with
  | cons h t =>
    cases h with
    | d h => exact ⟨Hf, _, s, he, .cons (.d h) (.cons (.d h) t), nd, hn, hw⟩
/-- all that stood stands -/
theorem Rel.same (r : Rel K mg H Ex rs ws) (e : Same H H') : Rel K mg H' Ex rs ws := by
  obtain ⟨Hf, as, s, he, ho, nd, hn, hw⟩ := r.ex
  have st : ∀ {a : Addr}, (∃ u, H a = some u) → H' a = H a := fun ⟨u, q⟩ => (e _ _ q).trans q.symm
  have nf : ∀ {a : Addr}, (∃ u, H a = some u) → NF H a → NF H' a := fun h q xs e => q xs ((st h).symm.trans e)
  refine ⟨Hf, as, s.trans e, fun p m => e _ _ (he p m), owLMono (Fz.le.refl _) ho fun a m => st (owLThere ho a m), nd, fun a m => ⟨(hn a m).1, nf ?_ (hn a m).2⟩, fun p m => ?_⟩
  · rcases List.mem_append.mp m with m | m
    · obtain ⟨p, mp, rfl⟩ := List.mem_map.mp m
      exact ⟨_, he p mp⟩
    · exact owLThere ho a m
  obtain ⟨bs, h⟩ := hw p m
  exact ⟨bs, owMono (Fz.le.refl _) h fun a m => st (owThere h a m)⟩
theorem sameNew {p : Addr} (h : H p = none) (o : HO) : Same H (upd H p o) := fun b u q => by rw [upd_ne (ne_of_none q h)]; exact q
/-- a new object -/
theorem Rel.new {p : Addr} (o : HO) (r : Rel K mg H Ex rs ws) (h : H p = none) (hnf : ∀ xs, o = .tup xs → ∃ b, V.ref b ∈ xs := by intro _ h; cases h) : Rel K mg (upd H p o) ((p, o) :: Ex) rs ws := by
  obtain ⟨Hf, as, s, he, ho, nd, hn, hw⟩ := (r.same (sameNew h o)).ex
  obtain ⟨Hf0, as0, s0, he0, ho0, nd0, hn0, hw0⟩ := r.ex
  have st : ∀ {a : Addr}, (∃ u, H a = some u) → (upd H p o) a = H a := fun ⟨u, q⟩ => (sameNew h o _ _ q).trans q.symm
  have pe : ∀ {a : Addr}, (∃ u, H a = some u) → a ≠ p := fun ⟨u, q⟩ z => by rw [z, h] at q; cases q
  refine ⟨Hf0, as0, s0.trans (sameNew h o), fun e m => ?_, owLMono (Fz.le.refl _) ho0 fun a m => st (owLThere ho0 a m), ?_, fun a m => ?_, fun p m => ?_⟩
  · rcases List.mem_cons.mp m with e' | m
    · subst e'; exact upd_same
    · exact sameNew h o _ _ (he0 e m)
  · refine List.nodup_cons.mpr ⟨fun m => ?_, nd0⟩
    rcases List.mem_append.mp m with m | m
    · obtain ⟨e, me, q⟩ := List.mem_map.mp m
      exact pe ⟨_, he0 e me⟩ q
    · exact pe (owLThere ho0 _ m) rfl
  · rcases List.mem_cons.mp m with e' | m
    · subst e'
      refine ⟨s0.free h, fun xs e => hnf xs ?_⟩
      rw [upd_same] at e
      exact Option.some.inj e
    · refine ⟨(hn0 a m).1, fun xs e => (hn0 a m).2 xs ?_⟩
      have : ∃ u, H a = some u := by
        rcases List.mem_append.mp m with m | m
        · obtain ⟨p, mp, rfl⟩ := List.mem_map.mp m
          exact ⟨_, he0 p mp⟩
        · exact owLThere ho0 a m
      exact (st this).symm.trans e
  · obtain ⟨bs, h⟩ := hw0 p m
    exact ⟨bs, owMono (Fz.le.refl _) h fun a m => st (owThere h a m)⟩
/-- an object of ours is written -/
theorem Rel.write {p : Addr} {o : HO} (o' : HO) (r : Rel K mg H ((p, o) :: Ex) rs ws) (hnf : ∀ xs, o' = .tup xs → ∃ b, V.ref b ∈ xs := by intro _ h; cases h) : Rel K mg (upd H p o') ((p, o') :: Ex) rs [] := by
  obtain ⟨Hf, as, s, he, ho, nd, hn, hw⟩ := r.ex
  have nd' := List.nodup_cons.mp nd
  have hp : Hf.no p := (hn p List.mem_cons_self).1
  refine ⟨Hf, as, s.upd hp, fun e m => ?_, owLMono (Fz.le.refl _) ho fun a m => upd_ne fun z => nd'.1 (z ▸ List.mem_append_right _ m), nd, fun a m => ?_, fun _ h => nomatch h⟩
  · rcases List.mem_cons.mp m with e' | m
    · subst e'; exact upd_same
    · rw [upd_ne fun z => nd'.1 (List.mem_append_left _ (List.mem_map.mpr ⟨e, m, z⟩))]
      exact he e (List.mem_cons_of_mem _ m)
  · refine ⟨(hn a m).1, fun xs e => ?_⟩
    by_cases z : a = p
    · subst z
      rw [upd_same] at e
      exact hnf xs (Option.some.inj e)
    · rw [upd_ne z] at e
      exact (hn a m).2 xs e
theorem zipMap {α β : Type} : ∀ {l : List α} {m : List β}, l.length = m.length → (l.zip m).map (·.1) = l ∧ (l.zip m).map (·.2) = m
  | [], [], _ => ⟨rfl, rfl⟩
  | a :: l, b :: m, h => by
    obtain ⟨h1, h2⟩ := zipMap (l := l) (m := m) (by simpa using h)
    exact ⟨by simp [h1], by simp [h2]⟩
  | [], _ :: _, h => by simp at h
  | _ :: _, [], h => by simp at h
theorem nodMid {A : List Addr} {a : Addr} {B : List Addr} : (A ++ a :: B).Nodup ↔ (a :: A ++ B).Nodup := (List.perm_middle).nodup_iff
/-- what is to be opened and shut: an owned object and what it holds -/
inductive Opn (mg : Str → Option Value) : O → HO → List V → List O → Prop
  | lst {vs : List V} {os : List O} : Opn mg (.lst os) (.lst vs) vs os
  | tup {vs : List V} {os : List O} : Opn mg (.tup os) (.tup vs) vs os
  | dK {kvs : List (Key × V)} {kos : List (Key × O)} : Keq (kvs.map (·.1)) (kos.map (·.1)) → Opn mg (.dK kos) (.dK kvs) (kvs.map (·.2)) (kos.map (·.2))
  | dT {kvs : List (List Key × V)} {kos : List (List Key × O)} : Keq (kvs.map (·.1)) (kos.map (·.1)) → Opn mg (.dT kos) (.dT kvs) (kvs.map (·.2)) (kos.map (·.2))
  | ins {C dx : Addr} {c : Str} {fvs : List (Str × V)} {fos : List (Str × O)} : mg c = some (.ref C) → fvs.map (·.1) = fos.map (·.1) → Opn mg (.ins c fos) (.ins C dx fvs) (fvs.map (·.2)) (fos.map (·.2))
  | dN {a : Addr} {ks : List NestedKey} {kas : List Addr} {kds : List PyData} {vs : List V} {os : List O} : nkL kds = some ks → kas.length = kds.length → Opn mg (.dN kds os) (ndO a ks kas vs) (kas.map V.ref ++ vs) (kds.map O.d ++ os)
def O.isG : O → Bool
  | .d _ => true
  | .gL _ => true
  | .gT _ => true
  | .gD _ => true
  | .gK _ => true
  | .gN _ _ => true
  | .pin _ => true
  | .fr _ => true
  | .mem _ => true
  | .hole _ => true
  | .jk => true
  | .exc _ _ => true
  | _ => false
theorem owOpn {Hf : Fz} {v : V} {o : O} {as : List Addr} (h : Ow K mg Hf H v o as) (hn : o.isG = false) : ∃ a bs ho vs os, v = .ref a ∧ as = a :: bs ∧ H a = some ho ∧ Opn mg o ho vs os ∧ OwL K mg Hf H vs os bs := by
  cases h with
  | d _ => cases hn
  | gL _ _ => cases hn
  | gT _ _ => cases hn
  | gD _ _ _ => cases hn
  | gK _ _ _ => cases hn
  | gN _ _ _ _ => cases hn
  | pin _ => cases hn
  | fr _ _ => cases hn
  | mem _ => cases hn
  | hole => cases hn
  | jk => cases hn
  | exc _ _ _ => cases hn
  | lst h t => exact ⟨_, _, _, _, _, rfl, rfl, h, .lst, t⟩
  | tup h t => exact ⟨_, _, _, _, _, rfl, rfl, h, .tup, t⟩
  | dK h k t => exact ⟨_, _, _, _, _, rfl, rfl, h, .dK k, t⟩
  | dT h k t => exact ⟨_, _, _, _, _, rfl, rfl, h, .dT k, t⟩
  | ins h c k t => exact ⟨_, _, _, _, _, rfl, rfl, h, .ins c k, t⟩
  | dN h k l t => exact ⟨_, _, _, _, _, rfl, rfl, h, .dN k l, t⟩
theorem Opn.ow {Hf : Fz} {a : Addr} {o : O} {ho : HO} {vs : List V} {os : List O} {bs : List Addr} (p : Opn mg o ho vs os) (h : H a = some ho) (t : OwL K mg Hf H vs os bs) : Ow K mg Hf H (.ref a) o (a :: bs) := by
  cases p with
  | lst => exact .lst h t
  | tup => exact .tup h t
  | dK k => exact .dK h k t
  | dT k => exact .dT h k t
  | ins c k => exact .ins h c k t
  | dN k l => exact .dN h k l t
theorem Rel.opn {v : V} {o : O} (r : Rel K mg H Ex ((v, o) :: rs) ws) (hn : o.isG = false) : ∃ a ho vs os, v = .ref a ∧ H a = some ho ∧ Opn mg o ho vs os ∧ vs.length = os.length ∧ Rel K mg H ((a, ho) :: Ex) (vs.zip os ++ rs) ws := by
  obtain ⟨Hf, as, s, he, ho, nd, hnn, hw⟩ := r.ex
  cases ho with
  | cons h t =>
    rename_i cs
    obtain ⟨a, bs, hob, vs, os, e1, e2, e3, p, q⟩ := owOpn h hn
    subst e2
    have hl := owLLen q
    obtain ⟨z1, z2⟩ := zipMap hl
    refine ⟨a, hob, vs, os, e1, e3, p, hl, ⟨Hf, bs ++ cs, s, fun e m => ?_, ?_, ?_, fun b m => hnn b ?_, hw⟩⟩
    · rcases List.mem_cons.mp m with e' | m
      · subst e'; exact e3
      · exact he e m
    · rw [List.map_append, List.map_append, z1, z2]
      exact owLApp q t
    · rw [List.cons_append] at nd
      exact nodMid.mp nd
    · rw [List.cons_append]
      exact (List.perm_middle (a := a)).mem_iff.mpr m
theorem Rel.shut {a : Addr} {o : O} {ho : HO} {vs : List V} {os : List O} (r : Rel K mg H ((a, ho) :: Ex) (vs.zip os ++ rs) ws) (p : Opn mg o ho vs os) (hl : vs.length = os.length) : Rel K mg H Ex ((.ref a, o) :: rs) ws := by
  obtain ⟨Hf, as, s, he, hob, nd, hnn, hw⟩ := r.ex
  obtain ⟨z1, z2⟩ := zipMap hl
  rw [List.map_append, List.map_append, z1, z2] at hob
  obtain ⟨a1, a2, rfl, h1, h2⟩ := owLSplit hl hob
  refine ⟨Hf, (a :: a1) ++ a2, s, fun e m => he e (List.mem_cons_of_mem _ m), .cons (p.ow (he _ List.mem_cons_self) h1) h2, ?_, fun b m => hnn b ?_, hw⟩
  · rw [List.cons_append]
    exact nodMid.mpr nd
  · rw [List.cons_append] at m
    exact (List.perm_middle (a := a)).mem_iff.mp m
/-- an owned value becomes data -/
theorem Rel.fz {v : V} {o : O} {x : PyData} (r : Rel K mg H Ex ((v, o) :: rs) ws) (e : o.fz = some x) : Rel K mg H Ex ((v, .d x) :: rs) ws := by
  obtain ⟨Hf, as, s, he, hob, nd, hnn, hw⟩ := r.ex
  cases hob with
  | cons h t =>
    rename_i a1 a2
    have q := owFz s.same h e
    have sub : (Ex.map (·.1) ++ a2).Sublist (Ex.map (·.1) ++ (a1 ++ a2)) := (List.sublist_append_right a1 a2).append_left _
    have dj : ∀ a ∈ Ex.map (·.1) ++ a2, a ∉ a1 := fun a m m1 => by
      have hp : (Ex.map (·.1) ++ (a1 ++ a2)).Perm (a1 ++ (Ex.map (·.1) ++ a2)) := by
        rw [← List.append_assoc, ← List.append_assoc]
        exact List.perm_append_comm.append_right _
      have nd2 := hp.nodup_iff.mp nd
      exact (List.nodup_append.mp nd2).2.2 a m1 a m rfl
    refine ⟨frz Hf H a1, a2, frzIn s a1 (fun a m => (hnn a (List.mem_append_right _ (List.mem_append_left _ m))).1.2), he, .cons (as := []) (.d q) (owLMono (frzSame s.same a1) t fun a m => rfl), nd.sublist sub, fun a m => ?_, fun p m => ?_⟩
    · exact ⟨frzNot (dj a m) (hnn a (sub.subset m)).1, (hnn a (sub.subset m)).2⟩
    · obtain ⟨bs, h⟩ := hw p m
      exact ⟨bs, owMono (frzSame s.same a1) h fun a m => rfl⟩
/-- an object of ours that is a tuple of data whose raw object is known becomes data -/
theorem Rel.shutF {p : Addr} {ob : Obj} {vs : List V} {ds : List PyData} (r : Rel K mg H ((p, .frz ob (.tup vs)) :: Ex) rs ws) (ho : ob.dict = none) (hi : idxS ds = true)
    (hv : ∀ (Hf : Fz) (as : List Addr), OwL K mg Hf H (rs.map (·.1)) (rs.map (·.2)) as → DpAll K Hf.h vs ds) : Rel K mg H Ex ((.ref p, .d (.tuple ds)) :: rs) ws := by
  obtain ⟨Hf, as, s, he, hob, nd, hnn, hw⟩ := r.ex
  have ep : H p = some (.frz ob (.tup vs)) := he (p, .frz ob (.tup vs)) List.mem_cons_self
  have nd' := List.nodup_cons.mp nd
  refine ⟨frz Hf H [p], as, frzIn s [p] (fun a m => by rw [List.mem_singleton.mp m]; exact (hnn p List.mem_cons_self).1.2), fun e m => he e (List.mem_cons_of_mem _ m), .cons (as := []) (.d (.ftup ?_ ho hi (dpAllMono (frzSame s.same [p]).h (hv Hf as hob)))) (owLMono (frzSame s.same [p]) hob fun a m => rfl), nd'.2, fun a m => ?_, fun q m => ?_⟩
  · rw [frzAt List.mem_cons_self]
    exact ep
  · have ne : a ≠ p := fun z => nd'.1 (by subst z; exact m)
    exact ⟨frzNot (by simpa using ne) (hnn a (List.mem_cons_of_mem _ m)).1, (hnn a (List.mem_cons_of_mem _ m)).2⟩
  · obtain ⟨bs, h⟩ := hw q m
    exact ⟨bs, owMono (frzSame s.same [p]) h fun a m => rfl⟩
/-- a new tuple of data -/
theorem Rel.newD {p : Addr} {vs : List V} {ds : List PyData} (r : Rel K mg H Ex rs ws) (h : H p = none) (hi : idxS ds = false)
    (hv : ∀ (Hf : Fz) (as : List Addr), OwL K mg Hf H (rs.map (·.1)) (rs.map (·.2)) as → DpAll K Hf.h vs ds) : Rel K mg (upd H p (.tup vs)) Ex ((.ref p, .d (.tuple ds)) :: rs) ws := by
  obtain ⟨Hf, as, s, he, ho, nd, hn, hw⟩ := r.ex
  have sn : Same H (upd H p (.tup vs)) := sameNew h _
  have s' : Hf.on K (upd H p (.tup vs)) := s.trans sn
  have st : ∀ {a : Addr}, (∃ u, H a = some u) → upd H p (.tup vs) a = H a := fun ⟨u, q⟩ => (sn _ _ q).trans q.symm
  have pe : ∀ {a : Addr}, (∃ u, H a = some u) → a ≠ p := fun ⟨u, q⟩ z => by rw [z, h] at q; cases q
  have th : ∀ a ∈ Ex.map (·.1) ++ as, ∃ u, H a = some u := fun a m => by
    rcases List.mem_append.mp m with m | m
    · obtain ⟨q, mq, rfl⟩ := List.mem_map.mp m
      exact ⟨_, he q mq⟩
    · exact owLThere ho a m
  refine ⟨frz Hf (upd H p (.tup vs)) [p], as, frzIn s' [p] (fun a m => by rw [List.mem_singleton.mp m]; exact (s.free h).2), fun e m => sn _ _ (he e m), .cons (as := []) (.d (.tup ?_ hi (dpAllMono (frzSame s'.same [p]).h (hv Hf as ho)))) (owLMono (frzSame s'.same [p]) ho fun a m => st (owLThere ho a m)), nd, fun a m => ⟨frzNot (by simpa using pe (th a m)) (hn a m).1, fun xs e => (hn a m).2 xs ((st (th a m)).symm.trans e)⟩, fun q m => ?_⟩
  · rw [frzAt List.mem_cons_self, upd_same]
  · obtain ⟨bs, hb⟩ := hw q m
    exact ⟨bs, owMono (frzSame s'.same [p]) hb fun a m => st (owThere hb a m)⟩
theorem owRef {Hf : Fz} {H : Hp} {v : V} {o : O} {as : List Addr} (h : Ow K mg Hf H v o as) (n : o.nd = true) : ∃ b, v = .ref b := by
  cases h with
  | d _ => cases n
  | fr _ _ => cases n
  | gL _ _ => exact ⟨_, rfl⟩
  | gT _ _ => exact ⟨_, rfl⟩
  | gD _ _ _ => exact ⟨_, rfl⟩
  | gK _ _ _ => exact ⟨_, rfl⟩
  | gN _ _ _ _ => exact ⟨_, rfl⟩
  | pin _ => exact ⟨_, rfl⟩
  | mem _ => exact ⟨_, rfl⟩
  | hole => exact ⟨_, rfl⟩
  | jk => exact ⟨_, rfl⟩
  | exc _ _ _ => exact ⟨_, rfl⟩
  | lst _ _ => exact ⟨_, rfl⟩
  | tup _ _ => exact ⟨_, rfl⟩
  | dK _ _ _ => exact ⟨_, rfl⟩
  | dT _ _ _ => exact ⟨_, rfl⟩
  | ins _ _ _ _ => exact ⟨_, rfl⟩
  | dN _ _ _ _ => exact ⟨_, rfl⟩
theorem owLRef {Hf : Fz} : ∀ {vs : List V} {os : List O} {as : List Addr}, OwL K mg Hf H vs os as → (∃ o ∈ os, ∀ x, o ≠ .d x) → ∃ b, V.ref b ∈ vs
  | _, _, _, .nil, h => by obtain ⟨o, m, _⟩ := h; cases m
  | _, _, _, .cons h t, q => by
    obtain ⟨o, m, ne⟩ := q
    rcases List.mem_cons.mp m with e | m
    · subst e
      cases h with
      | d _ => exact absurd rfl (ne _)
      | gL _ _ => exact ⟨_, List.mem_cons_self⟩
      | gT _ _ => exact ⟨_, List.mem_cons_self⟩
      | gD _ _ _ => exact ⟨_, List.mem_cons_self⟩
      | gK _ _ _ => exact ⟨_, List.mem_cons_self⟩
      | gN _ _ _ _ => exact ⟨_, List.mem_cons_self⟩
      | pin _ => exact ⟨_, List.mem_cons_self⟩
      | mem _ => exact ⟨_, List.mem_cons_self⟩
      | hole => exact ⟨_, List.mem_cons_self⟩
      | jk => exact ⟨_, List.mem_cons_self⟩
      | exc _ _ _ => exact ⟨_, List.mem_cons_self⟩
      | fr n h => obtain ⟨b, rfl⟩ := owRef h n; exact ⟨_, List.mem_cons_self⟩
      | lst _ _ => exact ⟨_, List.mem_cons_self⟩
      | tup _ _ => exact ⟨_, List.mem_cons_self⟩
      | dK _ _ _ => exact ⟨_, List.mem_cons_self⟩
      | dT _ _ _ => exact ⟨_, List.mem_cons_self⟩
      | ins _ _ _ _ => exact ⟨_, List.mem_cons_self⟩
      | dN _ _ _ _ => exact ⟨_, List.mem_cons_self⟩
    · obtain ⟨b, mb⟩ := owLRef t ⟨o, m, ne⟩
      exact ⟨b, List.mem_cons_of_mem _ mb⟩
/-- plain data -/
theorem Rel.data {v : V} {x : PyData} (r : Rel K mg H Ex rs ws) (h : ∀ Hf : Hp, Dp K Hf v x) : Rel K mg H Ex ((v, .d x) :: rs) ws := by
  obtain ⟨Hf, as, s, he, hob, nd, hnn, hw⟩ := r.ex
  exact ⟨Hf, as, s, he, .cons (as := []) (.d (h Hf.h)) hob, nd, hnn, hw⟩
end
end Z
namespace Z
open PySem PySem.Spec L2
abbrev Gs := List (Option O)
structure Exn where
  c : Str
  fs : List (Str × PyData)
inductive Res (α : Type) where
  | ok (a : α) (e : Gs)
  | ex (x : Exn) (e : Gs)
  | bad
  | all (f : V → Res α)
def Res.bdR {α β : Type} : Res α → (α → Gs → Res β) → Res β
  | .ok a e, k => k a e
  | .ex x e, _ => .ex x e
  | .bad, _ => .bad
  | .all f, k => .all fun v => (f v).bdR k
/-- as bdR; one turn is looked at alone -/
def Res.bd {α β : Type} (r : Res α) (k : α → Gs → Res β) : Res β := match r with
  | .ok a e => k a e
  | .ex x e => .ex x e
  | .bad => .bad
  | .all f => .all fun v => (f v).bdR k
theorem Res.bdR_eq {α β : Type} {k : α → Gs → Res β} : ∀ {r : Res α}, r.bdR k = r.bd k
  | .ok _ _ => rfl
  | .ex _ _ => rfl
  | .bad => rfl
  | .all _ => rfl
def M (α : Type) : Type := Gs → Res α
def M.ret {α : Type} (a : α) : M α := fun e => .ok a e
def M.bd {α β : Type} (m : M α) (f : α → M β) : M β := fun e => (m e).bd f
instance : Monad M where
  pure := M.ret
  bind := M.bd
def M.no {α : Type} : M α := fun _ => .bad
def WpR {α : Type} (r : Res α) (A : α → Gs → Prop) (B : Exn → Gs → Prop) : Prop := match r with
  | .ok a e => A a e
  | .ex x e => B x e
  | .bad => False
  | .all f => ∀ v, WpR (f v) A B
def Wp {α : Type} (r : Res α) (A : α → Gs → Prop) (B : Exn → Gs → Prop) : Prop := match r with
  | .ok a e => A a e
  | .ex x e => B x e
  | .bad => False
  | .all f => ∀ v, WpR (f v) A B
theorem wpR_eq {α : Type} {A : α → Gs → Prop} {B : Exn → Gs → Prop} : ∀ {r : Res α}, WpR r A B = Wp r A B
  | .ok _ _ => rfl
  | .ex _ _ => rfl
  | .bad => rfl
  | .all _ => rfl
theorem wp_all {α : Type} {f : V → Res α} {A : α → Gs → Prop} {B : Exn → Gs → Prop} : Wp (.all f) A B ↔ ∀ v, Wp (f v) A B := forall_congr' fun v => by rw [wpR_eq]
theorem Res.wp_bd {α β : Type} {f : α → Gs → Res β} {A : β → Gs → Prop} {B : Exn → Gs → Prop} : ∀ {r : Res α}, Wp (r.bd f) A B ↔ Wp r (fun a e' => Wp (f a e') A B) B
  | .ok a e => Iff.rfl
  | .ex x e => Iff.rfl
  | .bad => Iff.rfl
  | .all g => wp_all.trans ((forall_congr' fun v => by rw [Res.bdR_eq]; exact Res.wp_bd (r := g v)).trans wp_all.symm)
theorem Wp.bd {α β : Type} {m : M α} {f : α → M β} {e : Gs} {A : β → Gs → Prop} {B : Exn → Gs → Prop} (h : Wp (M.bd m f e) A B) : Wp (m e) (fun a e' => Wp (f a e') A B) B := Res.wp_bd.mp h
theorem Wp.imp {α : Type} {A A' : α → Gs → Prop} {B B' : Exn → Gs → Prop} : ∀ {r : Res α}, Wp r A B → (∀ a e, A a e → A' a e) → (∀ x e, B x e → B' x e) → Wp r A' B'
  | .ok a e, h, ha, hb => ha _ _ h
  | .ex x e, h, ha, hb => hb _ _ h
  | .bad, h, ha, hb => h
  | .all g, h, ha, hb => wp_all.mpr fun v => Wp.imp (r := g v) (wp_all.mp h v) ha hb
def roots : St → Gs → Roots
  | some v :: σ, some o :: g => (v, o) :: roots σ g
  | _ :: σ, _ :: g => roots σ g
  | _, _ => []
structure Fit (σ : St) (g : Gs) : Prop where
  len : σ.length = g.length
  at_ : ∀ (i : Nat) (o : O), g[i]? = some (some o) → ∃ v : V, σ[i]? = some (some v)
theorem Fit.clr {σ : St} {g : Gs} (f : Fit σ g) (i : Nat) : Fit σ (g.set i none) := ⟨by rw [List.length_set]; exact f.len, fun j o h => by
  by_cases e : i = j
  · subst e
    rw [List.getElem?_set] at h
    simp at h
  · rw [List.getElem?_set_ne e] at h
    exact f.at_ j o h⟩
theorem Fit.set {σ : St} {g : Gs} (f : Fit σ g) (i : Nat) (v : V) (o : Option O) : Fit (σ.set i (some v)) (g.set i o) := ⟨by rw [List.length_set, List.length_set]; exact f.len, fun j o' h => by
  by_cases e : i = j
  · subst e
    have hl : i < σ.length := by
      rw [f.len]
      rw [List.getElem?_set] at h
      by_cases q : i < g.length
      · exact q
      · simp [q] at h
    exact ⟨v, List.getElem?_set_self hl⟩
  · rw [List.getElem?_set_ne e] at h
    rw [List.getElem?_set_ne e]
    exact f.at_ j o' h⟩
theorem rootsGet : ∀ {σ : St} {g : Gs} {i : Nat} {v : V} {o : O}, σ[i]? = some (some v) → g[i]? = some (some o) → (roots σ g).Perm ((v, o) :: roots σ (g.set i none))
  | [], _, _, _, _, h, _ => by simp at h
  | _ :: _, [], _, _, _, _, h => by simp at h
  | s :: σ, p :: g, 0, v, o, h1, h2 => by
    simp only [List.getElem?_cons_zero, Option.some.injEq] at h1 h2
    subst h1; subst h2
    simp only [List.set_cons_zero, roots]
    exact .refl _
  | s :: σ, p :: g, i + 1, v, o, h1, h2 => by
    simp only [List.getElem?_cons_succ] at h1 h2
    have ih := rootsGet h1 h2
    simp only [List.set_cons_succ]
    cases s with
    | none => simpa only [roots] using ih
    | some w =>
      cases p with
      | none => simpa only [roots] using ih
      | some q =>
        simp only [roots]
        exact (ih.cons _).trans (.swap _ _ _)
theorem rootsSet : ∀ {σ : St} {g : Gs} {i : Nat} {v : V} {o : O}, i < σ.length → i < g.length → (roots (σ.set i (some v)) (g.set i (some o))).Perm ((v, o) :: roots σ (g.set i none))
  | [], _, _, _, _, h, _ => by simp at h
  | _ :: _, [], _, _, _, _, h => by simp at h
  | s :: σ, p :: g, 0, v, o, h1, h2 => by
    simp only [List.set_cons_zero]
    cases s <;> (simp only [roots]; exact .refl _)
  | s :: σ, p :: g, i + 1, v, o, h1, h2 => by
    have ih := rootsSet (σ := σ) (g := g) (i := i) (v := v) (o := o) (by simpa using h1) (by simpa using h2)
    simp only [List.set_cons_succ]
    cases s with
    | none => simpa only [roots] using ih
    | some w =>
      cases p with
      | none => simpa only [roots] using ih
      | some q =>
        simp only [roots]
        exact (ih.cons _).trans (.swap _ _ _)
theorem rootsNone : ∀ {σ : St} {g : Gs} {i : Nat} {x : Option V}, roots (σ.set i x) (g.set i none) = roots σ (g.set i none)
  | [], _, _, _ => by simp
  | s :: σ, [], i, x => by cases i <;> simp [roots]
  | s :: σ, p :: g, 0, x => by
    simp only [List.set_cons_zero]
    cases s <;> cases x <;> simp [roots]
  | s :: σ, p :: g, i + 1, x => by
    have ih := rootsNone (σ := σ) (g := g) (i := i) (x := x)
    simp only [List.set_cons_succ]
    cases s with
    | none => simpa only [roots] using ih
    | some w => cases p <;> simp only [roots, ih]
theorem setNone {g : Gs} {i : Nat} (h : ∀ o, g[i]? ≠ some (some o)) : g.set i none = g := by
  apply List.ext_getElem?
  intro j
  by_cases e : i = j
  · subst e
    rw [List.getElem?_set]
    by_cases q : i < g.length
    · simp only [if_true, q]
      cases z : g[i]? with
      | none => rw [List.getElem?_eq_none_iff] at z; omega
      | some y =>
        cases y with
        | none => rfl
        | some o => exact absurd z (h o)
    · simp only [if_true, q, if_false]
      exact (List.getElem?_eq_none (by omega)).symm
  · rw [List.getElem?_set_ne e]
section
variable {K : PySem.W.Frag} {mg : Str → Option Value} {H H' : Hp} {Ex : List (Addr × HO)} {T ws : Roots} {σ : St} {g : Gs}
theorem Rel.clr (r : Rel K mg H Ex (roots σ g ++ T) ws) (f : Fit σ g) (i : Nat) : Rel K mg H Ex (roots σ (g.set i none) ++ T) ws := by
  cases q : g[i]? with
  | none => rw [setNone (by intro o; rw [q]; simp)]; exact r
  | some y =>
    cases y with
    | none => rw [setNone (by intro o; rw [q]; simp)]; exact r
    | some o =>
      obtain ⟨v, hv⟩ := f.at_ i o q
      exact (r.perm ((rootsGet hv q).append_right T)).drop
theorem Rel.setAt {v : V} {o : O} {i : Nat} (r : Rel K mg H Ex (roots σ g ++ ((v, o) :: T)) ws) (f : Fit σ g) (hi : i < σ.length) : Rel K mg H Ex (roots (σ.set i (some v)) (g.set i (some o)) ++ T) ws := by
  have r1 := r.clr f i
  have r2 : Rel K mg H Ex ((v, o) :: (roots σ (g.set i none) ++ T)) ws := r1.perm List.perm_middle
  exact r2.perm ((rootsSet hi (f.len ▸ hi)).symm.append_right T)
end
/-- a field of an exception: plain values alone -/
def vF : PyData → V
  | .bool b => .bl b
  | .int i => .int i
  | .str s => .str s
  | _ => .non
def flatF : PyData → Bool
  | .none => true
  | .bool _ => true
  | .int _ => true
  | .str _ => true
  | _ => false
def ExAt (mg : Str → Option Value) (Ex : List (Addr × HO)) (cls : Value) (d : Option Addr) (H : Hp) (x : Exn) : Prop :=
  ∃ C, cls = .ref C ∧ mg x.c = some (.ref C) ∧ ((x.fs = [] ∧ d = none) ∨ ∃ dd, d = some dd ∧ H dd = some (.xd (x.fs.map fun p => (p.1, vF p.2))) ∧ dd ∉ Ex.map (·.1) ∧ ∀ p ∈ x.fs, flatF p.2 = true)
structure At (X : Cx) (H : Hp) (Ex : List (Addr × HO)) (σ : St) (g : Gs) (T ws : Roots) : Prop where
  fit : Fit σ g
  rel : Rel X.K X.mg H Ex (roots σ g ++ T) ws
def Vs (pu : Bool) (ws : Roots) : Roots := if pu = true then ws else []
theorem vsSub {pu : Bool} {ws : Roots} : ∀ p ∈ Vs pu ws, p ∈ ws := fun p m => by
  unfold Vs at m
  split at m
  · exact m
  · cases m
section
variable {X : Cx} {H H' : Hp} {Ex : List (Addr × HO)} {σ : St} {g : Gs} {T T' ws ws' : Roots}
theorem At.views (a : At X H Ex σ g T ws) (m : ∀ p ∈ ws', p ∈ ws) : At X H Ex σ g T ws' := ⟨a.fit, a.rel.views m⟩
theorem At.same (a : At X H Ex σ g T ws) (e : Same H H') : At X H' Ex σ g T ws := ⟨a.fit, a.rel.same e⟩
theorem At.perm (a : At X H Ex σ g T ws) (p : T.Perm T') : At X H Ex σ g T' ws := ⟨a.fit, a.rel.perm (p.append_left _)⟩
theorem At.top {p : V × O} (a : At X H Ex σ g (p :: T) ws) : Rel X.K X.mg H Ex (p :: (roots σ g ++ T)) ws := a.rel.perm List.perm_middle
theorem At.ofTop {p : V × O} (f : Fit σ g) (r : Rel X.K X.mg H Ex (p :: (roots σ g ++ T)) ws) : At X H Ex σ g (p :: T) ws := ⟨f, r.perm List.perm_middle.symm⟩
theorem At.drop {p : V × O} (a : At X H Ex σ g (p :: T) ws) : At X H Ex σ g T ws := ⟨a.fit, a.top.drop⟩
theorem At.toView {p : V × O} (a : At X H Ex σ g (p :: T) ws) : At X H Ex σ g T (p :: ws) := ⟨a.fit, a.top.toView⟩
theorem At.data {v : V} {x : PyData} (a : At X H Ex σ g T ws) (h : ∀ Hf, Dp X.K Hf v x) : At X H Ex σ g ((v, .d x) :: T) ws := .ofTop a.fit (a.rel.data h)
end
structure Ev (X : Cx) (W : WX) (pu : Bool) (e : Expr) (m : M O) : Prop where
  ex : ∃ t, PE X e t ∧ ∀ (σ : St) (H : Hp) (Q : VK) (g : Gs) (T : Roots) (Ex : List (Addr × HO)) (ws : Roots), At X H Ex σ g T ws →
    Wp (m g) (fun o g' => ∀ v H', (pu = true → g' = g ∧ Same H H') → At X H' Ex σ g' ((v, o) :: T) (Vs pu ws) → Q v H')
      (fun x g' => ∀ H' cls d, At X H' Ex σ g' T [] → ExAt X.mg Ex cls d H' x → W cls d σ H') → t σ H Q
structure EvP (X : Cx) (W : WX) (pu : Bool) (e : Expr) (m : M O) : Prop where
  ex : ∃ t, PE X e t ∧ ∀ (σ : St) (H : Hp) (Q : VK) (g : Gs) (T : Roots) (Ex : List (Addr × HO)) (ws : Roots), At X H Ex σ g T ws →
    Wp (m g) (fun o g' => ∀ v H', (pu = true → g' = g ∧ Same H H') → At X H' Ex σ g' T ((v, o) :: Vs pu ws) → Q v H')
      (fun x g' => ∀ H' cls d, At X H' Ex σ g' T [] → ExAt X.mg Ex cls d H' x → W cls d σ H') → t σ H Q
structure EvT (X : Cx) (W : WX) (pu : Bool) (e : Expr) (m : M Bool) : Prop where
  ex : ∃ t, PT X e t ∧ ∀ (σ : St) (H : Hp) (Q : Bool → Hp → Prop) (g : Gs) (T : Roots) (Ex : List (Addr × HO)) (ws : Roots), At X H Ex σ g T ws →
    Wp (m g) (fun b g' => ∀ H', (pu = true → g' = g ∧ Same H H') → At X H' Ex σ g' T (Vs pu ws) → Q b H')
      (fun x g' => ∀ H' cls d, At X H' Ex σ g' T [] → ExAt X.mg Ex cls d H' x → W cls d σ H') → t σ H Q
/-- and, or: a test whatever its whole is -/
structure EvW (X : Cx) (W : WX) (pu : Bool) (e : Expr) (m : M Bool) : Prop where
  ex : ∃ t, PW X e t ∧ ∀ (σ : St) (H : Hp) (Q : Bool → Hp → Prop) (g : Gs) (T : Roots) (Ex : List (Addr × HO)) (ws : Roots), At X H Ex σ g T ws →
    Wp (m g) (fun b g' => ∀ H', (pu = true → g' = g ∧ Same H H') → At X H' Ex σ g' T (Vs pu ws) → Q b H')
      (fun x g' => ∀ H' cls d, At X H' Ex σ g' T [] → ExAt X.mg Ex cls d H' x → W cls d σ H') → t σ H Q
theorem EvW.t {X : Cx} {W : WX} {pu : Bool} {e : Expr} {m : M Bool} (h : EvW X W pu e m) : EvT X W pu e m := by
  obtain ⟨t, h1, h2⟩ := h.ex
  exact ⟨t, h1.pt, h2⟩
def tAll : List TE → TA
  | [] => tNil
  | t :: ts => tCons t (tAll ts)
inductive PEs (X : Cx) : List Expr → List TE → Prop
  | nil : PEs X [] []
  | cons {e : Expr} {es : List Expr} {t : TE} {ts : List TE} : PE X e t → (starEach (e :: es) X.env = (false, eval e X.env) :: starEach es X.env) → PEs X es ts → PEs X (e :: es) (t :: ts)
theorem PEs.pa {X : Cx} : ∀ {es : List Expr} {ts : List TE}, PEs X es ts → PA X es (tAll ts)
  | _, _, .nil => pa_nil
  | _, _, .cons h s t => pa_cons h t.pa s
/-- operands, from the left, to be looked at -/
structure EvAs (X : Cx) (W : WX) (pu : Bool) (es : List Expr) (m : M (List O)) : Prop where
  ex : ∃ ts, PEs X es ts ∧ ∀ (σ : St) (H : Hp) (Q : List V → Hp → Prop) (g : Gs) (T : Roots) (Ex : List (Addr × HO)) (ws : Roots), At X H Ex σ g T ws →
    Wp (m g) (fun os g' => ∀ vs H', vs.length = os.length → (pu = true → g' = g ∧ Same H H') → At X H' Ex σ g' T (vs.zip os ++ Vs pu ws) → Q vs H')
      (fun x g' => ∀ H' cls d, At X H' Ex σ g' T [] → ExAt X.mg Ex cls d H' x → W cls d σ H') → tAll ts σ H Q
section
variable {X : Cx} {W : WX} {pu pv : Bool} {e a b : Expr} {es : List Expr} {m ma mb : M O}
theorem vsVs {p q : Bool} {ws : Roots} : Vs q (Vs p ws) = Vs (p && q) ws := by cases p <;> cases q <;> rfl
/-- a value is looked at -/
theorem Ev.p (h : Ev X W pu e m) : EvP X W pu e m := by
  obtain ⟨t, h1, h2⟩ := h.ex
  exact ⟨t, h1, fun σ H Q g T Ex ws a w => h2 σ H Q g T Ex ws a (w.imp (fun o g' k v H' s a' => k v H' s a'.toView) fun _ _ k => k)⟩
theorem eas_nil : EvAs X W true [] (M.ret []) := ⟨[], .nil, fun σ H Q g T Ex ws a w => w [] H rfl (fun _ => ⟨rfl, Same.refl _⟩) a⟩
def consM (m : M O) (ms : M (List O)) : M (List O) := M.bd m fun o => M.bd ms fun os => M.ret (o :: os)
/-- the first one had while the others are reckoned -/
theorem eas_e {m : M O} {ms : M (List O)} (h : Ev X W pu e m) (hs : EvAs X W pv es ms) (st : starEach (e :: es) X.env = (false, eval e X.env) :: starEach es X.env := by rfl) : EvAs X W (pu && pv) (e :: es) (consM m ms) := by
  obtain ⟨t, h1, h2⟩ := h.ex
  obtain ⟨ts, g1, g2⟩ := hs.ex
  refine ⟨t :: ts, .cons h1 st g1, fun σ H Q g T Ex ws a w => ?_⟩
  refine h2 σ H _ g T Ex ws a (w.bd.imp (fun o g' k v H' s a' => ?_) fun _ _ k => k)
  refine g2 σ H' _ g' _ Ex _ a' (k.bd.imp (fun os g2 k vs H2 hl s2 a2 => ?_) fun x g2 k H2 cls d a2 => k H2 cls d a2.drop)
  refine k (v :: vs) H2 (by simp [hl]) (fun z => ?_) (a2.toView.views fun p m => ?_)
  · have z' := Bool.and_eq_true_iff.mp z
    obtain ⟨e1, e2⟩ := s z'.1
    obtain ⟨e3, e4⟩ := s2 z'.2
    exact ⟨e3.trans e1, e2.trans e4⟩
  · rw [vsVs]
    simpa using m
/-- the first one is looked at, the others change nothing -/
theorem eas_p {m : M O} {ms : M (List O)} (h : EvP X W pu e m) (hs : EvAs X W true es ms) (st : starEach (e :: es) X.env = (false, eval e X.env) :: starEach es X.env := by rfl) : EvAs X W pu (e :: es) (consM m ms) := by
  obtain ⟨t, h1, h2⟩ := h.ex
  obtain ⟨ts, g1, g2⟩ := hs.ex
  refine ⟨t :: ts, .cons h1 st g1, fun σ H Q g T Ex ws a w => ?_⟩
  refine h2 σ H _ g T Ex ws a (w.bd.imp (fun o g' k v H' s a' => ?_) fun _ _ k => k)
  refine g2 σ H' _ g' _ Ex _ a' (k.bd.imp (fun os g2 k vs H2 hl s2 a2 => ?_) fun x g2 k H2 cls d a2 => k H2 cls d a2)
  obtain ⟨e3, e4⟩ := s2 rfl
  refine k (v :: vs) H2 (by simp [hl]) (fun z => ?_) (a2.views fun p m => ?_)
  · obtain ⟨e1, e2⟩ := s z
    exact ⟨e3.trans e1, e2.trans e4⟩
  · simp only [Vs, if_true, List.zip_cons_cons, List.cons_append, List.mem_cons, List.mem_append] at m ⊢
    rcases m with m | m | m
    · exact .inr (.inl m)
    · exact .inl m
    · exact .inr (.inr m)
def PR (X : Cx) (r : List V → Hp → VK → Prop) (f : List O → Option O) : Prop :=
  ∀ (xs : List V) (os : List O) (H : Hp) (Ex : List (Addr × HO)) (rs ws : Roots) (Q : VK) (o : O), xs.length = os.length → Rel X.K X.mg H Ex rs (xs.zip os ++ ws) → f os = some o →
    (∀ v H', Same H H' → Rel X.K X.mg H' Ex ((v, o) :: rs) (xs.zip os ++ ws) → Q v H') → r xs H Q
def liftM (f : List O → Option O) (os : List O) : M O := fun g => match f os with
  | some o => .ok o g
  | none => .bad
theorem wpLift {f : List O → Option O} {os : List O} {g : Gs} {A : O → Gs → Prop} {B : Exn → Gs → Prop} (h : Wp (liftM f os g) A B) : ∃ o, f os = some o ∧ A o g := by
  unfold liftM Wp at h
  cases q : f os with
  | none => rw [q] at h; exact h.elim
  | some o => rw [q] at h; exact ⟨o, rfl, h⟩
/-- two operands -/
def r2L (r : R2) : List V → Hp → VK → Prop := fun xs H Q => match xs with
  | [x, y] => r x y H Q
  | _ => False
def opM (f : List O → Option O) (ms : M (List O)) : M O := M.bd ms (liftM f)
theorem opCore {r : List V → Hp → VK → Prop} {f : List O → Option O} {ms : M (List O)} {ts : List TE} (pr : PR X r f)
    (g2 : ∀ (σ : St) (H : Hp) (Q : List V → Hp → Prop) (g : Gs) (T : Roots) (Ex : List (Addr × HO)) (ws : Roots), At X H Ex σ g T ws →
      Wp (ms g) (fun os g' => ∀ vs H', vs.length = os.length → (pu = true → g' = g ∧ Same H H') → At X H' Ex σ g' T (vs.zip os ++ Vs pu ws) → Q vs H')
        (fun x g' => ∀ H' cls d, At X H' Ex σ g' T [] → ExAt X.mg Ex cls d H' x → W cls d σ H') → tAll ts σ H Q) :
    ∀ (σ : St) (H : Hp) (Q : VK) (g : Gs) (T : Roots) (Ex : List (Addr × HO)) (ws : Roots), At X H Ex σ g T ws →
      Wp (opM f ms g) (fun o g' => ∀ v H', (pu = true → g' = g ∧ Same H H') → At X H' Ex σ g' ((v, o) :: T) (Vs pu ws) → Q v H')
        (fun x g' => ∀ H' cls d, At X H' Ex σ g' T [] → ExAt X.mg Ex cls d H' x → W cls d σ H') → tAll ts σ H fun xs H2 => r xs H2 Q := fun σ H Q g T Ex ws a w => by
  refine g2 σ H _ g T Ex ws a (w.bd.imp (fun os g' k vs H' hl s a' => ?_) fun _ _ k => k)
  obtain ⟨o, ho, k⟩ := wpLift k
  refine pr vs os H' Ex _ _ Q o hl a'.rel ho fun v H2 s2 r2 => k v H2 (fun z => ?_) (.ofTop a'.fit (r2.views fun p m => List.mem_append_right _ m))
  obtain ⟨e1, e2⟩ := s z
  exact ⟨e1, e2.trans s2⟩
theorem ev_op {op : Operator} {r : R2} {f : List O → Option O} {ms : M (List O)} {pos : Pos} (ho : OpR X (binaryOp op) r) (pr : PR X (r2L r) f) (h : EvAs X W pu [a, b] ms) : Ev X W pu (.BinOp a op b pos) (opM f ms) := by
  obtain ⟨ts, g1, g2⟩ := h.ex
  cases g1 with
  | cons p1 _ g1 =>
    cases g1 with
    | cons p2 _ g1 =>
      cases g1
      exact ⟨_, pe_op ho p1 p2, opCore pr g2⟩
theorem ev_cmp {op : CmpOp} {r : R2} {f : List O → Option O} {ms : M (List O)} {pos : Pos} (ho : OpR X (compareOp op) r) (pr : PR X (r2L r) f) (h : EvAs X W pu [a, b] ms) (hm : behindInMarks op b = false) : Ev X W pu (.Compare a [op] [b] pos) (opM f ms) := by
  obtain ⟨ts, g1, g2⟩ := h.ex
  cases g1 with
  | cons p1 _ g1 =>
    cases g1 with
    | cons p2 _ g1 =>
      cases g1
      exact ⟨_, pe_cmpR ho p1 p2 hm, opCore pr g2⟩
def asB : O → M Bool := fun o g => match o with
  | .d (.bool b) => .ok b g
  | _ => .bad
theorem wpB {o : O} {g : Gs} {A : Bool → Gs → Prop} {B : Exn → Gs → Prop} (h : Wp (asB o g) A B) : ∃ b, o = .d (.bool b) ∧ A b g := by
  unfold asB at h
  split at h
  · exact ⟨_, rfl, h⟩
  · exact h.elim
theorem Rel.isB {K : PySem.W.Frag} {mg : Str → Option Value} {H : Hp} {Ex : List (Addr × HO)} {rs ws : Roots} {v : V} {k : Bool} (r : Rel K mg H Ex ((v, .d (.bool k)) :: rs) ws) : v = .bl k := by
  obtain ⟨Hf, as, s, he, ho, nd, hn, hw⟩ := r.ex
  cases ho with
  | cons h t => cases h with | d h => cases h; rfl
def tstM (m : M O) : M Bool := M.bd m asB
theorem tstCore {t : TE} (h2 : ∀ (σ : St) (H : Hp) (Q : VK) (g : Gs) (T : Roots) (Ex : List (Addr × HO)) (ws : Roots), At X H Ex σ g T ws →
    Wp (m g) (fun o g' => ∀ v H', (pu = true → g' = g ∧ Same H H') → At X H' Ex σ g' ((v, o) :: T) (Vs pu ws) → Q v H')
      (fun x g' => ∀ H' cls d, At X H' Ex σ g' T [] → ExAt X.mg Ex cls d H' x → W cls d σ H') → t σ H Q) :
    ∀ (σ : St) (H : Hp) (Q : Bool → Hp → Prop) (g : Gs) (T : Roots) (Ex : List (Addr × HO)) (ws : Roots), At X H Ex σ g T ws →
    Wp (tstM m g) (fun b g' => ∀ H', (pu = true → g' = g ∧ Same H H') → At X H' Ex σ g' T (Vs pu ws) → Q b H')
      (fun x g' => ∀ H' cls d, At X H' Ex σ g' T [] → ExAt X.mg Ex cls d H' x → W cls d σ H') → t σ H fun x H1 => ∃ k, x = .bl k ∧ Q k H1 := fun σ H Q g T Ex ws a w => by
  refine h2 σ H _ g T Ex ws a (w.bd.imp (fun o g' k v H' s a' => ?_) fun _ _ k => k)
  obtain ⟨b, e, k⟩ := wpB k
  subst e
  exact ⟨b, a'.top.isB, k H' s a'.drop⟩
theorem et_cmp {op : CmpOp} {r : R2} {f : List O → Option O} {ms : M (List O)} {pos : Pos} (ho : OpR X (compareOp op) r) (pr : PR X (r2L r) f) (h : EvAs X W pu [a, b] ms) (hm : behindInMarks op b = false) : EvT X W pu (.Compare a [op] [b] pos) (tstM (opM f ms)) := by
  obtain ⟨ts, g1, g2⟩ := h.ex
  cases g1 with
  | cons p1 _ g1 =>
    cases g1 with
    | cons p2 _ g1 =>
      cases g1
      exact ⟨_, pt_cmpR ho p1 p2 hm, tstCore (opCore pr g2)⟩
/-- an expression that gives a truth, as a test -/
theorem et_val (h : Ev X W pu e m) (he : ∀ whole, isTrue e X.env whole = (do let v ← whole; standAt e.pos; holding [v] (truthy v)) := by intro _; rfl) : EvT X W pu e (tstM m) := by
  obtain ⟨t, h1, h2⟩ := h.ex
  exact ⟨_, pt_val h1 he, tstCore h2⟩
def notZ (m : M Bool) : M Bool := M.bd m fun b => M.ret (!b)
theorem et_not {m : M Bool} {pos : Pos} (h : EvT X W pu a m) : EvT X W pu (.UnaryOp .Not a pos) (notZ m) := by
  obtain ⟨t, h1, h2⟩ := h.ex
  exact ⟨_, pt_not h1, fun σ H Q g T Ex ws a w => h2 σ H _ g T Ex ws a (w.bd.imp (fun b g' k H' s a' => k H' s a') fun _ _ k => k)⟩
def andZ (m n : M Bool) : M Bool := M.bd m fun b => if b = true then n else M.ret false
def orZ (m n : M Bool) : M Bool := M.bd m fun b => if b = true then M.ret true else n
section
variable {rest : List Expr} {m n : M Bool} {pos : Pos}
theorem ew_and1 (h : EvT X W pu a m) : EvW X W pu (.BoolOp .And [a] pos) m := by
  obtain ⟨t, h1, h2⟩ := h.ex
  exact ⟨_, pw_and1 h1, h2⟩
theorem ew_or1 (h : EvT X W pu a m) : EvW X W pu (.BoolOp .Or [a] pos) m := by
  obtain ⟨t, h1, h2⟩ := h.ex
  exact ⟨_, pw_or1 h1, h2⟩
theorem ew_and (h : EvT X W pu a m) (hb : EvW X W pv (.BoolOp .And (b :: rest) pos) n) : EvW X W (pu && pv) (.BoolOp .And (a :: b :: rest) pos) (andZ m n) := by
  obtain ⟨t, h1, h2⟩ := h.ex
  obtain ⟨u, g1, g2⟩ := hb.ex
  refine ⟨_, pw_and h1 g1, fun σ H Q g T Ex ws a w => ?_⟩
  refine h2 σ H _ g T Ex ws a (w.bd.imp (fun c g' k H' s a' => ?_) fun _ _ k => k)
  cases c with
  | true =>
    refine iteT (g2 σ H' Q g' T Ex _ a' (k.imp (fun c g2 k H2 s2 a2 => k H2 (fun z => ?_) (by rw [vsVs] at a2; exact a2)) fun _ _ k => k))
    have z' := Bool.and_eq_true_iff.mp z
    obtain ⟨e1, e2⟩ := s z'.1
    obtain ⟨e3, e4⟩ := s2 z'.2
    exact ⟨e3.trans e1, e2.trans e4⟩
  | false =>
    refine iteF (k H' (fun z => s (Bool.and_eq_true_iff.mp z).1) (a'.views fun p m => ?_))
    cases pu <;> cases pv <;> first | exact m | cases m
theorem ew_or (h : EvT X W pu a m) (hb : EvW X W pv (.BoolOp .Or (b :: rest) pos) n) : EvW X W (pu && pv) (.BoolOp .Or (a :: b :: rest) pos) (orZ m n) := by
  obtain ⟨t, h1, h2⟩ := h.ex
  obtain ⟨u, g1, g2⟩ := hb.ex
  refine ⟨_, pw_or h1 g1, fun σ H Q g T Ex ws a w => ?_⟩
  refine h2 σ H _ g T Ex ws a (w.bd.imp (fun c g' k H' s a' => ?_) fun _ _ k => k)
  cases c with
  | false =>
    refine iteF (g2 σ H' Q g' T Ex _ a' (k.imp (fun c g2 k H2 s2 a2 => k H2 (fun z => ?_) (by rw [vsVs] at a2; exact a2)) fun _ _ k => k))
    have z' := Bool.and_eq_true_iff.mp z
    obtain ⟨e1, e2⟩ := s z'.1
    obtain ⟨e3, e4⟩ := s2 z'.2
    exact ⟨e3.trans e1, e2.trans e4⟩
  | true =>
    refine iteT (k H' (fun z => s (Bool.and_eq_true_iff.mp z).1) (a'.views fun p m => ?_))
    cases pu <;> cases pv <;> first | exact m | cases m
end
end
end Z
namespace Z
open PySem PySem.Spec L2
section
variable {X : Cx} {H H' : Hp} {Ex : List (Addr × HO)} {σ : St} {g : Gs} {T T' ws ws' : Roots} {W : WX} {pu pv : Bool} {e a b : Expr} {es : List Expr} {m ma mb : M O} {pos : Pos}
/-- plain data is read -/
def rdM (i : Nat) : M O := fun g => match g[i]? with
  | some (some (.d x)) => .ok (.d x) g
  | _ => .bad
/-- what stands at a name becomes data and is read -/
def fzM (i : Nat) : M O := fun g => match g[i]? with
  | some (some (.d x)) => .ok (.d x) g
  | some (some o) => match o.fz with
    | some x => .ok (.d x) (g.set i (some (.d x)))
    | none => .bad
  | _ => .bad
def pkM (i : Nat) : M O := fun g => match g[i]? with
  | some (some o) => .ok o g
  | _ => .bad
/-- what stands at a name is handed away -/
def mvM (i : Nat) : M O := fun g => match g[i]? with
  | some (some o) => .ok o (g.set i none)
  | _ => .bad
theorem At.get {i : Nat} {o : O} {v : V} (a : At X H Ex σ g T ws) (hg : g[i]? = some (some o)) (hv : σ[i]? = some (some v)) : Rel X.K X.mg H Ex ((v, o) :: (roots σ (g.set i none) ++ T)) ws :=
  a.rel.perm ((rootsGet hv hg).append_right T)
theorem stGet {i : Nat} {v : V} (hv : σ[i]? = some (some v)) : σ.set i (some v) = σ := by
  apply List.ext_getElem?
  intro j
  by_cases e : i = j
  · subst e
    rw [List.getElem?_set_self (List.getElem?_eq_some_iff.mp hv).1, hv]
  · rw [List.getElem?_set_ne e]
theorem rootsPut {i : Nat} {o : O} {v : V} (f : Fit σ g) (hv : σ[i]? = some (some v)) : (roots σ (g.set i (some o))).Perm ((v, o) :: roots σ (g.set i none)) := by
  have hi := (List.getElem?_eq_some_iff.mp hv).1
  have := rootsSet (σ := σ) (g := g) (i := i) (v := v) (o := o) hi (f.len ▸ hi)
  rwa [stGet hv] at this
/-- the root of a slot is put back -/
theorem At.put {i : Nat} {o : O} {v : V} (f : Fit σ g) (hv : σ[i]? = some (some v)) (r : Rel X.K X.mg H Ex ((v, o) :: (roots σ (g.set i none) ++ T)) ws) : At X H Ex σ (g.set i (some o)) T ws := by
  refine ⟨⟨by rw [List.length_set]; exact f.len, fun j o' h => ?_⟩, r.perm ((rootsPut f hv).symm.append_right T)⟩
  by_cases e : i = j
  · subst e; exact ⟨v, hv⟩
  · rw [List.getElem?_set_ne e] at h; exact f.at_ j o' h
theorem At.rd {i : Nat} {x : PyData} {v : V} (a : At X H Ex σ g T ws) (hg : g[i]? = some (some (.d x))) (hv : σ[i]? = some (some v)) : At X H Ex σ g ((v, .d x) :: T) ws := by
  have r := (a.get hg hv).dup
  refine .ofTop a.fit (r.perm (.cons _ ?_))
  have p := (rootsGet hv hg).append_right T
  exact p.symm
theorem At.pk {i : Nat} {o : O} {v : V} (a : At X H Ex σ g T ws) (hg : g[i]? = some (some o)) (hv : σ[i]? = some (some v)) : At X H Ex σ g T ((v, o) :: ws) := by
  have r := (a.get hg hv).see
  exact ⟨a.fit, r.perm ((rootsGet hv hg).append_right T).symm⟩
theorem At.fzAt {i : Nat} {o : O} {x : PyData} {v : V} (a : At X H Ex σ g T ws) (hg : g[i]? = some (some o)) (hv : σ[i]? = some (some v)) (hf : o.fz = some x) : At X H Ex σ (g.set i (some (.d x))) T ws :=
  .put a.fit hv ((a.get hg hv).fz hf)
theorem ev_rd (i : Nat) {x : Str} (hN : X.N[i]? = some x := by rfl) (hv : Vis X.env.scope x := by first | exact Or.inl rfl | exact Or.inr (Or.inl rfl) | exact Or.inr (Or.inr rfl)) (hd : (x == ("__debug__" : Str)) = false := by decide)
    (hcd : (x == ("__classdict__" : Str)) = false := by decide) : Ev X W true (.Name x pos) (rdM i) := by
  refine ⟨_, pv i hN hv hd hcd, fun σ H Q g T Ex ws a w => ?_⟩
  unfold rdM at w
  split at w
  · rename_i y hg
    obtain ⟨v, hv⟩ := a.fit.at_ _ _ hg
    exact ⟨v, hv, w v H (fun _ => ⟨rfl, Same.refl _⟩) (a.rd hg hv)⟩
  · exact w.elim
theorem ev_fz (i : Nat) {x : Str} (hN : X.N[i]? = some x := by rfl) (hv : Vis X.env.scope x := by first | exact Or.inl rfl | exact Or.inr (Or.inl rfl) | exact Or.inr (Or.inr rfl)) (hd : (x == ("__debug__" : Str)) = false := by decide)
    (hcd : (x == ("__classdict__" : Str)) = false := by decide) : Ev X W false (.Name x pos) (fzM i) := by
  refine ⟨_, pv i hN hv hd hcd, fun σ H Q g T Ex ws a w => ?_⟩
  unfold fzM at w
  split at w
  · rename_i y hg
    obtain ⟨v, hv⟩ := a.fit.at_ _ _ hg
    exact ⟨v, hv, w v H (fun z => by cases z) ((a.rd hg hv).views vsSub)⟩
  · rename_i o _ hg
    split at w
    · rename_i y hf
      obtain ⟨v, hv⟩ := a.fit.at_ _ _ hg
      have hi := (List.getElem?_eq_some_iff.mp hg).1
      exact ⟨v, hv, w v H (fun z => by cases z) (((a.fzAt hg hv hf).rd (List.getElem?_set_self hi) hv).views vsSub)⟩
    · exact w.elim
  · exact w.elim
theorem ep_pk (i : Nat) {x : Str} (hN : X.N[i]? = some x := by rfl) (hv : Vis X.env.scope x := by first | exact Or.inl rfl | exact Or.inr (Or.inl rfl) | exact Or.inr (Or.inr rfl)) (hd : (x == ("__debug__" : Str)) = false := by decide)
    (hcd : (x == ("__classdict__" : Str)) = false := by decide) : EvP X W true (.Name x pos) (pkM i) := by
  refine ⟨_, pv i hN hv hd hcd, fun σ H Q g T Ex ws a w => ?_⟩
  unfold pkM at w
  split at w
  · rename_i y hg
    obtain ⟨v, hv⟩ := a.fit.at_ _ _ hg
    exact ⟨v, hv, w v H (fun _ => ⟨rfl, Same.refl _⟩) (a.pk hg hv)⟩
  · exact w.elim
theorem ev_mv (i : Nat) {x : Str} (hN : X.N[i]? = some x := by rfl) (hv : Vis X.env.scope x := by first | exact Or.inl rfl | exact Or.inr (Or.inl rfl) | exact Or.inr (Or.inr rfl)) (hd : (x == ("__debug__" : Str)) = false := by decide)
    (hcd : (x == ("__classdict__" : Str)) = false := by decide) : Ev X W false (.Name x pos) (mvM i) := by
  refine ⟨_, pv i hN hv hd hcd, fun σ H Q g T Ex ws a w => ?_⟩
  unfold mvM at w
  split at w
  · rename_i y hg
    obtain ⟨v, hv⟩ := a.fit.at_ _ _ hg
    exact ⟨v, hv, w v H (fun z => by cases z) (.ofTop (a.fit.clr i) ((a.get hg hv).views vsSub))⟩
  · exact w.elim
/-- what is only looked at, when it is data, is had -/
def vwM (m : M O) : M O := M.bd m fun o g => match o with
  | .d x => .ok (.d x) g
  | _ => .bad
def dM (x : PyData) : M O := M.ret (.d x)
theorem ev_int {i : Int} {j : Nat} : Ev X W true (.Constant (.int i) j pos) (dM (.int i)) := ⟨_, pe_int, fun σ H Q g T Ex ws a w => w _ H (fun _ => ⟨rfl, Same.refl _⟩) (a.data fun _ => .int i)⟩
theorem ev_bl {i : Bool} {j : Nat} : Ev X W true (.Constant (.bool i) j pos) (dM (.bool i)) := ⟨_, pe_bl, fun σ H Q g T Ex ws a w => w _ H (fun _ => ⟨rfl, Same.refl _⟩) (a.data fun _ => .bl i)⟩
theorem ev_non {j : Nat} : Ev X W true (.Constant .none j pos) (dM .none) := ⟨_, pe_non, fun σ H Q g T Ex ws a w => w _ H (fun _ => ⟨rfl, Same.refl _⟩) (a.data fun _ => .non)⟩
theorem ev_str {x : Str} {j : Nat} : Ev X W true (.Constant (.str x) j pos) (dM (.str x)) := ⟨_, pe_str, fun σ H Q g T Ex ws a w => w _ H (fun _ => ⟨rfl, Same.refl _⟩) (a.data fun _ => .str x)⟩
/-- a module's name that holds a text, an int -/
theorem ev_glob {x : Str} {v : V} {u : Value} {y : PyData} (hg : Gl X x) (hm : X.mg x = some u) (r : RelV v u) (hd : ∀ Hf, Dp X.K Hf v y) (hdb : (x == ("__debug__" : Str)) = false := by decide) : Ev X W true (.Name x pos) (dM y) :=
  ⟨_, pe_glob hg hm r hdb, fun σ H Q g T Ex ws a w => w _ H (fun _ => ⟨rfl, Same.refl _⟩) (a.data hd)⟩
structure EvEs (X : Cx) (W : WX) (pu : Bool) (es : List Expr) (m : M (List O)) : Prop where
  ex : ∃ ts, PEs X es ts ∧ ∀ (σ : St) (H : Hp) (Q : List V → Hp → Prop) (g : Gs) (T : Roots) (Ex : List (Addr × HO)) (ws : Roots), At X H Ex σ g T ws →
    Wp (m g) (fun os g' => ∀ vs H', vs.length = os.length → (pu = true → g' = g ∧ Same H H') → At X H' Ex σ g' (vs.zip os ++ T) (Vs pu ws) → Q vs H')
      (fun x g' => ∀ H' cls d, At X H' Ex σ g' T [] → ExAt X.mg Ex cls d H' x → W cls d σ H') → tAll ts σ H Q
theorem ees_nil : EvEs X W true [] (M.ret []) := ⟨[], .nil, fun σ H Q g T Ex ws a w => w [] H rfl (fun _ => ⟨rfl, Same.refl _⟩) a⟩
theorem permIn {p : V × O} {l T : Roots} : (l ++ p :: T).Perm ((p :: l) ++ T) := List.perm_middle
theorem ees_cons {ms : M (List O)} (h : Ev X W pu e m) (hs : EvEs X W pv es ms) (st : starEach (e :: es) X.env = (false, eval e X.env) :: starEach es X.env := by rfl) : EvEs X W (pu && pv) (e :: es) (consM m ms) := by
  obtain ⟨t, h1, h2⟩ := h.ex
  obtain ⟨ts, g1, g2⟩ := hs.ex
  refine ⟨t :: ts, .cons h1 st g1, fun σ H Q g T Ex ws a w => ?_⟩
  refine h2 σ H _ g T Ex ws a (w.bd.imp (fun o g' k v H' s a' => ?_) fun _ _ k => k)
  refine g2 σ H' _ g' _ Ex _ a' (k.bd.imp (fun os g2 k vs H2 hl s2 a2 => ?_) fun x g2 k H2 cls d a2 => k H2 cls d a2.drop)
  refine k (v :: vs) H2 (by simp [hl]) (fun z => ?_) ((a2.perm permIn).views fun p m => by rw [vsVs]; exact m)
  have z' := Bool.and_eq_true_iff.mp z
  obtain ⟨e1, e2⟩ := s z'.1
  obtain ⟨e3, e4⟩ := s2 z'.2
  exact ⟨e3.trans e1, e2.trans e4⟩
def allD : List O → Option (List PyData)
  | [] => some []
  | .d x :: r => match allD r with | some y => some (x :: y) | none => none
  | _ :: _ => none
theorem allDFz : ∀ {os : List O} {ds : List PyData}, allD os = some ds → O.fzL os = some ds
  | [], _, h => by simpa only [allD, O.fzL] using h
  | .d x :: r, ds, h => by
    simp only [allD] at h
    cases q : allD r with
    | none => rw [q] at h; cases h
    | some y =>
      rw [q] at h
      cases h
      simp only [O.fzL, O.fz, allDFz q]
  | .gL _ :: _, _, h => by simp [allD] at h
  | .gT _ :: _, _, h => by simp [allD] at h
  | .lst _ :: _, _, h => by simp [allD] at h
  | .tup _ :: _, _, h => by simp [allD] at h
  | .dK _ :: _, _, h => by simp [allD] at h
  | .dT _ :: _, _, h => by simp [allD] at h
  | .ins _ _ :: _, _, h => by simp [allD] at h
theorem allD_map : ∀ ds : List PyData, allD (ds.map O.d) = some ds
  | [] => rfl
  | x :: r => by simp [allD, allD_map r]
def mkTup (os : List O) : O := match allD os with
  | some ds => .d (.tuple ds)
  | none => .tup os
def lenOk (n : Nat) : Bool := decide (n ≤ 16777216)
theorem lenOk_le {n : Nat} (h : lenOk n = true) : n ≤ sizeLine := by
  have := of_decide_eq_true h
  rw [sizeLine_eq]
  exact this
def gdM {α : Type} (c : Bool) (m : M α) : M α := fun g => if c = true then m g else .bad
theorem wpGd {α : Type} {c : Bool} {m : M α} {A : α → Gs → Prop} {B : Exn → Gs → Prop} (h : Wp (gdM c m g) A B) : c = true ∧ Wp (m g) A B := by
  unfold gdM at h
  split at h
  · exact ⟨by assumption, h⟩
  · exact h.elim
def tupM (ms : M (List O)) : M O := M.bd ms fun os => gdM (lenOk os.length) (M.ret (mkTup os))
def lstM (ms : M (List O)) : M O := M.bd ms fun os => gdM (lenOk os.length) (M.ret (.lst os))
/-- a new tuple: as it is, or with its raw object known -/
def TupP (H : Hp) (vs : List V) (Q : VK) : Prop := (∀ p, H p = none → Q (.ref p) (upd H p (.tup vs))) ∨ ∀ (p : Addr) (o : Obj), o.dict = none → H p = none → Q (.ref p) (upd H p (.frz o (.tup vs)))
theorem owAllD0 {K : PySem.W.Frag} {mg : Str → Option Value} {H : Hp} {Hf : Fz} : ∀ {vs : List V} {os : List O} {as : List Addr} {ds : List PyData}, OwL K mg Hf H vs os as → allD os = some ds → DpAll K Hf.h vs ds
  | _, _, _, ds, .nil, h => by simp only [allD, Option.some.injEq] at h; subst h; exact .nil
  | _, _, _, ds, .cons (o := o) (os := os) h t, e => by
    cases h with
    | d h =>
      simp only [allD] at e
      cases q : allD os with
      | none => rw [q] at e; cases e
      | some y => rw [q] at e; cases e; exact .cons h (owAllD0 t q)
    | _ => simp [allD] at e
theorem Rel.newTup {K : PySem.W.Frag} {mg : Str → Option Value} {rs : Roots} {vs : List V} {os : List O} {Q : VK} (r : Rel K mg H Ex (vs.zip os ++ rs) ws) (hl : vs.length = os.length) (k5 : ∀ v H', Same H H' → Rel K mg H' Ex ((v, mkTup os) :: rs) ws → Q v H') : TupP H vs Q := by
  have dat : ∀ {Hf : Fz} {as : List Addr} {ds : List PyData}, allD os = some ds → OwL K mg Hf H ((vs.zip os ++ rs).map (·.1)) ((vs.zip os ++ rs).map (·.2)) as → DpAll K Hf.h vs ds := fun q h => by
    obtain ⟨z1, z2⟩ := zipMap hl
    rw [List.map_append, List.map_append, z1, z2] at h
    obtain ⟨a1, a2, _, h1, _⟩ := owLSplit hl h
    exact owAllD0 h1 q
  cases q : allD os with
  | none =>
    refine .inl fun p hp => ?_
    have hnf : ∃ b, V.ref b ∈ vs := by
      obtain ⟨Hf, as, s, he, ho, nd, hn, hw⟩ := r.ex
      obtain ⟨z1, z2⟩ := zipMap hl
      rw [List.map_append, List.map_append, z1, z2] at ho
      obtain ⟨a1, a2, _, h1, _⟩ := owLSplit hl ho
      refine owLRef h1 ?_
      refine Classical.byContradiction fun hc => ?_
      have all : ∀ o ∈ os, ∃ x, o = .d x := fun o m => Classical.byContradiction fun hx => hc ⟨o, m, fun x e => hx ⟨x, e⟩⟩
      have : ∀ os : List O, (∀ o ∈ os, ∃ x, o = .d x) → ∃ ds, allD os = some ds := by
        intro os
        induction os with
        | nil => exact fun _ => ⟨[], rfl⟩
        | cons o r ih =>
          intro h
          obtain ⟨x, rfl⟩ := h o (by simp)
          obtain ⟨ds, e⟩ := ih fun o m => h o (by simp [m])
          exact ⟨x :: ds, by rw [allD, e]⟩
      obtain ⟨ds, e⟩ := this os all
      rw [q] at e
      cases e
    have r1 := (r.new (.tup vs) hp (fun xs e => by cases e; exact hnf)).shut (.tup (os := os)) hl
    refine k5 _ _ (sameNew hp _) ?_
    have e : mkTup os = .tup os := by unfold mkTup; rw [q]
    rw [e]
    exact r1
  | some ds =>
    have e : mkTup os = .d (.tuple ds) := by unfold mkTup; rw [q]
    cases qi : idxS ds with
    | false =>
      refine .inl fun p hp => k5 _ _ (sameNew hp _) ?_
      rw [e]
      have r2 := r.newD (p := p) (vs := vs) hp qi fun Hf as h => dat q h
      exact (r2.perm (List.perm_middle (l₁ := vs.zip os)).symm).dropL
    | true =>
      refine .inr fun p o ho hp => k5 _ _ (sameNew hp _) ?_
      have r1 := r.new (.frz o (.tup vs)) hp
      rw [e]
      have r2 := r1.shutF (ds := ds) ho qi fun Hf as h => by
        obtain ⟨z1, z2⟩ := zipMap hl
        rw [List.map_append, List.map_append, z1, z2] at h
        obtain ⟨a1, a2, _, h1, _⟩ := owLSplit hl h
        exact owAllD0 h1 q
      exact (r2.perm (List.perm_middle (l₁ := vs.zip os)).symm).dropL
theorem Rel.newLst {K : PySem.W.Frag} {mg : Str → Option Value} {rs : Roots} {vs : List V} {os : List O} {p : Addr} (r : Rel K mg H Ex (vs.zip os ++ rs) ws) (hl : vs.length = os.length) (hp : H p = none) : Rel K mg (upd H p (.lst vs)) Ex ((.ref p, .lst os) :: rs) ws :=
  (r.new (.lst vs) hp).shut (.lst (os := os)) hl
theorem At.tops {l : Roots} (a : At X H Ex σ g (l ++ T) ws) : Rel X.K X.mg H Ex (l ++ (roots σ g ++ T)) ws := a.rel.perm (by
  rw [← List.append_assoc, ← List.append_assoc]
  exact List.perm_append_comm.append_right _)
/-- a tuple's object is pushed -/
theorem invTup {pins : List (Addr × Obj)} {s : Shared} {xs : List V} {us : List Value} {Q : VK} {t' : Nat} (I : Inv X pins σ H s) (r : Vals xs us) (z : xs.length ≤ sizeLine) (q : TupP H xs Q) :
    EP X pins σ Q (.ref s.heap.objs.size) { s with heap := s.heap.push { cls := .type "tuple", data := .seq us.toArray }, toks := t' } := by
  have fr := I.hok.fresh (Nat.le_refl _)
  have gp := Heap.get?_push_size s.heap (o := { cls := .type "tuple", data := .seq us.toArray }) rfl
  rcases q with q | q
  · exact ⟨.ref _, _, I.laid (t' := t') (fun b u e => Heap.get?_push_of_some _ e) (Nat.le_refl _) (o := .tup xs) ⟨z, us, r, ⟨_, gp, rfl, _, rfl⟩⟩, rfl, q _ fr⟩
  · exact ⟨.ref _, _, I.laid (t' := t') (fun b u e => Heap.get?_push_of_some _ e) (Nat.le_refl _) (o := .frz { cls := .type "tuple", data := .seq us.toArray } (.tup xs)) ⟨gp, z, us, r, ⟨_, gp, rfl, _, rfl⟩⟩, rfl, q _ _ rfl fr⟩
theorem pe_tupE {t : TA} {x1 : Nat} (h : PA X es t) : PE X (.Tuple es x1 pos) (fun σ H Q => t σ H fun xs H1 => xs.length ≤ sizeLine ∧ TupP H1 xs Q) := by
  refine ⟨fun pins s σ H Q I hq => wpAny_Tuple_spliced (thn (h.run pos pins s σ H _ I hq) fun us s1 m => ?_)⟩
  obtain ⟨xs, H1, I1, r, z, q⟩ := m
  exact ⟨by rw [← r.length]; exact z, invTup (t' := s1.toks) I1 r z q⟩
theorem ev_tup {ms : M (List O)} {x1 : Nat} (h : EvEs X W pu es ms) : Ev X W pu (.Tuple es x1 pos) (tupM ms) := by
  obtain ⟨ts, g1, g2⟩ := h.ex
  refine ⟨_, pe_tupE g1.pa, fun σ H Q g T Ex ws a w => ?_⟩
  refine g2 σ H _ g T Ex ws a (w.bd.imp (fun os g' k vs H' hl s a' => ?_) fun _ _ k => k)
  obtain ⟨k1, k⟩ := wpGd k
  refine ⟨hl ▸ lenOk_le k1, a'.tops.newTup hl fun v H1 s1 r1 => k _ _ (fun z => ?_) (.ofTop a'.fit r1)⟩
  obtain ⟨e1, e2⟩ := s z
  exact ⟨e1, e2.trans s1⟩
theorem ev_lst {ms : M (List O)} (h : EvEs X W pu es ms) : Ev X W pu (.List es pos) (lstM ms) := by
  obtain ⟨ts, g1, g2⟩ := h.ex
  refine ⟨_, pe_lst g1.pa, fun σ H Q g T Ex ws a w => ?_⟩
  refine g2 σ H _ g T Ex ws a (w.bd.imp (fun os g' k vs H' hl s a' => ?_) fun _ _ k => k)
  obtain ⟨k1, k⟩ := wpGd k
  refine ⟨hl ▸ lenOk_le k1, fun p hp => k _ _ (fun z => ?_) (.ofTop a'.fit (a'.tops.newLst hl hp))⟩
  obtain ⟨e1, e2⟩ := s z
  exact ⟨e1, e2.trans (sameNew hp _)⟩
def ifM {α : Type} (c : M Bool) (m n : M α) : M α := M.bd c fun b => if b = true then m else n
theorem purTr {g1 g2 : Gs} {H1 H2 : Hp} (s : pu = true → g1 = g ∧ Same H H1) (s2 : pv = true → g2 = g1 ∧ Same H1 H2) (z : (pu && pv) = true) : g2 = g ∧ Same H H2 := by
  have z' := Bool.and_eq_true_iff.mp z
  obtain ⟨e1, e2⟩ := s z'.1
  obtain ⟨e3, e4⟩ := s2 z'.2
  exact ⟨e3.trans e1, e2.trans e4⟩
theorem andL {p q : Bool} : (p && q) = true → p = true := fun z => (Bool.and_eq_true_iff.mp z).1
theorem andR {p q : Bool} : (p && q) = true → q = true := fun z => (Bool.and_eq_true_iff.mp z).2
theorem vsL {p q : Bool} : ∀ r ∈ Vs (p && q) ws, r ∈ Vs p ws := fun r m => by
  unfold Vs at m ⊢
  split at m
  · rw [if_pos (andL (by assumption))]; exact m
  · cases m
def blM (m : M Bool) : M O := M.bd m fun b => M.ret (.d (.bool b))
/-- x and y, of truths -/
def andV (m n : M O) : M O := M.bd (tstM m) fun b => if b = true then n else M.ret (.d (.bool false))
def orV (m n : M O) : M O := M.bd (tstM m) fun b => if b = true then M.ret (.d (.bool true)) else n
section
variable {rest : List Expr} {n : M O}
theorem ev_one {op : BoolOp} (h : Ev X W pu a m) : Ev X W pu (.BoolOp op [a] pos) m := by
  obtain ⟨t, h1, h2⟩ := h.ex
  exact ⟨_, pe_one h1, h2⟩
theorem ev_and (h : Ev X W pu a m) (hb : Ev X W pv (.BoolOp .And (b :: rest) pos) n) : Ev X W (pu && pv) (.BoolOp .And (a :: b :: rest) pos) (andV m n) := by
  obtain ⟨t, h1, h2⟩ := h.ex
  obtain ⟨u, g1, g2⟩ := hb.ex
  refine ⟨_, pe_and h1 g1, fun σ H Q g T Ex ws a w => ?_⟩
  refine h2 σ H _ g T Ex ws a (w.bd.bd.imp (fun o g' k v H' s a' => ?_) fun _ _ k => k)
  obtain ⟨c, e, kk⟩ := wpB k
  clear k
  subst e
  refine ⟨c, a'.top.isB, ?_⟩
  cases c with
  | true => exact iteT (g2 σ H' Q g' T Ex _ a'.drop (kk.imp (fun c g2 k v H2 s2 a2 => k v H2 (fun z => purTr s s2 z) (by rw [vsVs] at a2; exact a2)) fun _ _ k => k))
  | false => exact iteF (kk _ H' (fun z => s (andL z)) ((a'.drop.data fun _ => .bl false).views vsL))
theorem ev_or (h : Ev X W pu a m) (hb : Ev X W pv (.BoolOp .Or (b :: rest) pos) n) : Ev X W (pu && pv) (.BoolOp .Or (a :: b :: rest) pos) (orV m n) := by
  obtain ⟨t, h1, h2⟩ := h.ex
  obtain ⟨u, g1, g2⟩ := hb.ex
  refine ⟨_, pe_or h1 g1, fun σ H Q g T Ex ws a w => ?_⟩
  refine h2 σ H _ g T Ex ws a (w.bd.bd.imp (fun o g' k v H' s a' => ?_) fun _ _ k => k)
  obtain ⟨c, e, kk⟩ := wpB k
  clear k
  subst e
  refine ⟨c, a'.top.isB, ?_⟩
  cases c with
  | false => exact iteF (g2 σ H' Q g' T Ex _ a'.drop (kk.imp (fun c g2 k v H2 s2 a2 => k v H2 (fun z => purTr s s2 z) (by rw [vsVs] at a2; exact a2)) fun _ _ k => k))
  | true => exact iteT (kk _ H' (fun z => s (andL z)) ((a'.drop.data fun _ => .bl true).views vsL))
def notV (m : M O) : M O := M.bd (tstM m) fun b => M.ret (.d (.bool (!b)))
theorem ev_not (h : Ev X W pu a m) : Ev X W pu (.UnaryOp .Not a pos) (notV m) := by
  obtain ⟨t, h1, h2⟩ := h.ex
  refine ⟨_, pe_not h1, fun σ H Q g T Ex ws a w => ?_⟩
  refine h2 σ H _ g T Ex ws a (w.bd.bd.imp (fun o g' k v H' s a' => ?_) fun _ _ k => k)
  obtain ⟨c, e, k⟩ := wpB k
  subst e
  exact ⟨c, a'.top.isB, k _ H' s (a'.drop.data fun _ => .bl _)⟩
end
/-- a < b < c of data: the middle one had -/
def chM (f f' : List O → Option O) (ma mb mc : M O) : M O := M.bd ma fun x => M.bd mb fun y => M.bd (opM f (M.ret [x, y])) fun z => M.bd (asB z) fun k => if k = true then M.bd mc fun u => opM f' (M.ret [y, u]) else M.ret (.d (.bool false))
theorem ev_chain {op op' : CmpOp} {r r' : R2} {f f' : List O → Option O} {c : Expr} {mc : M O} {pw : Bool} (ho : OpR X (compareOp op) r) (ho' : OpR X (compareOp op') r') (pr : PR X (r2L r) f) (pr' : PR X (r2L r') f') (ha : Ev X W pu a ma) (hb : Ev X W pv b mb) (hc : Ev X W pw c mc)
    (hm : lastMarks [op, op'] [b, c] = false) : Ev X W (pu && (pv && pw)) (.Compare a [op, op'] [b, c] pos) (chM f f' ma mb mc) := by
  obtain ⟨ta, a1, a2⟩ := ha.ex
  obtain ⟨tb, b1, b2⟩ := hb.ex
  obtain ⟨tc, c1, c2⟩ := hc.ex
  refine ⟨_, pe_chain ho ho' a1 b1 c1 hm, fun σ H Q g T Ex ws a w => ?_⟩
  refine a2 σ H _ g T Ex ws a (w.bd.imp (fun x g1 k v H1 s a' => ?_) fun _ _ k => k)
  refine b2 σ H1 _ g1 _ Ex _ a' (k.bd.imp (fun y g2 k u H2 s2 a'' => ?_) fun x g2 k H2 cls d a2 => k H2 cls d a2.drop)
  have k := k.bd.bd
  obtain ⟨z, hz, k⟩ := wpLift k
  obtain ⟨q, e, kk⟩ := wpB k.bd
  clear k
  subst e
  have rr := a''.top.see
  have r0 : Rel X.K X.mg H2 Ex ((v, x) :: (u, y) :: (roots σ g2 ++ T)) ((u, y) :: Vs pv (Vs pu ws)) := rr.perm ((List.Perm.cons _ List.perm_middle).trans (.swap _ _ _))
  have r1 : Rel X.K X.mg H2 Ex ((v, x) :: (u, y) :: (roots σ g2 ++ T)) ([v, u].zip [x, y] ++ Vs pv (Vs pu ws)) := r0.see
  refine pr [v, u] [x, y] H2 Ex _ _ _ _ rfl r1 hz fun w1 H3 s3 r3 => ?_
  refine ⟨q, r3.isB, ?_⟩
  have r4 : Rel X.K X.mg H3 Ex ((u, y) :: (roots σ g2 ++ T)) (Vs pv (Vs pu ws)) := (r3.drop.drop).views fun p m => List.mem_append_right _ m
  cases q with
  | true =>
    refine iteT (c2 σ H3 _ g2 _ Ex _ (.ofTop a''.fit r4) (kk.bd.imp (fun o g3 k w2 H4 s4 a4 => ?_) fun x g2 k H2 cls d a2 => k H2 cls d a2.drop))
    obtain ⟨z2, hz2, k⟩ := wpLift k.bd
    have rr := a4.top.see
    have r0 : Rel X.K X.mg H4 Ex ((u, y) :: (w2, o) :: (roots σ g3 ++ T)) ((w2, o) :: Vs pw (Vs pv (Vs pu ws))) := rr.perm ((List.Perm.cons _ List.perm_middle).trans (.swap _ _ _))
    have r1 : Rel X.K X.mg H4 Ex ((u, y) :: (w2, o) :: (roots σ g3 ++ T)) ([u, w2].zip [y, o] ++ Vs pw (Vs pv (Vs pu ws))) := r0.see
    refine pr' [u, w2] [y, o] H4 Ex _ _ _ _ rfl r1 hz2 fun w3 H5 s5 r5 => k w3 H5 (fun t => ?_) (.ofTop a4.fit ?_)
    · obtain ⟨e1, f1⟩ := s (andL t)
      obtain ⟨e2, f2⟩ := s2 (andL (andR t))
      obtain ⟨e3, f3⟩ := s4 (andR (andR t))
      exact ⟨e3.trans (e2.trans e1), f1.trans (f2.trans (s3.trans (f3.trans s5)))⟩
    · have p : ((w3, z2) :: (u, y) :: (w2, o) :: (roots σ g3 ++ T)).Perm ((u, y) :: (w2, o) :: (w3, z2) :: (roots σ g3 ++ T)) := (List.Perm.swap _ _ _).trans (.cons _ (.swap _ _ _))
      refine ((r5.perm p).drop.drop).views fun p m => List.mem_append_right _ ?_
      rw [vsVs, vsVs]
      exact m
  | false =>
    refine iteF (kk _ H3 (fun t => ?_) (.ofTop a''.fit ?_))
    · obtain ⟨e1, f1⟩ := s (andL t)
      obtain ⟨e2, f2⟩ := s2 (andL (andR t))
      exact ⟨e2.trans e1, f1.trans (f2.trans s3)⟩
    · refine (r4.drop.data fun _ => .bl false).views fun p m => ?_
      rw [vsVs]
      rw [← Bool.and_assoc] at m
      exact vsL p m
end
end Z
namespace Z
open PySem PySem.Spec L2
structure RoomG (k : Nat) (A : Around) : Prop where
  r : Room k A
  gd : A.guards = some []
section
variable {j k : Nat} {A : Around}
theorem RoomG.mono (r : RoomG k A) (h : j ≤ k) : RoomG j A := ⟨r.r.mono h, r.gd⟩
theorem RoomG.units (r : RoomG k A) : A.units + 64 < cLine := r.r.units
theorem RoomG.hd (r : RoomG k A) : A.handled = none := r.r.hd
theorem RoomG.deeper (r : RoomG (k + 1) A) (env : Env) : RoomG k (A.deeper env) := ⟨r.r.deeper env, r.gd⟩
theorem make_guards {C : Addr} {us : List Value} {kw : List (Str × Value)} : (Code.builtin "type.__call__" ⟨.ref C :: us, kw⟩).guards = [] := by
  unfold Code.guards
  rw [if_neg (by simp [Code.isGuard, guardIds])]
theorem RoomG.make (r : RoomG (k + 1) A) (C : Addr) (us : List Value) (kw : List (Str × Value)) : RoomG k (A.under (.builtin "type.__call__" ⟨.ref C :: us, kw⟩)) := ⟨r.r.make C us kw, by
  show pushGuards (Code.builtin "type.__call__" ⟨.ref C :: us, kw⟩).guards A.guards = some []
  rw [make_guards, r.gd]
  rfl⟩
end
/-- a def does as sp tells, called so -/
structure FnG (P : Program) (w : World) (K : PySem.W.Frag) (mg : Str → Option Value) (base : Heap) (CX : CXT) (k : Nat) (f : Addr) (fd : FuncData) (ps : List Str) (sp : Sp) : Prop where
  len : ∀ vs H Q E, sp vs H Q E → vs.length = ps.length
  run : ∀ (A : Around) (o : List Env) (s : Shared) (H : Hp) (args : Args) (us : List Value) (vs : List V) (Q : VK) (E : XK), RoomG k A → Env0 P w K mg base A o s H → BindsTo s fd args (ps.zip us) → Vals vs us → sp vs H Q E → codeAny (model P w) A (.call (.ref f) args) (CR CX o P w H s Q E) s
theorem FnG.imp {P : Program} {w : World} {K : PySem.W.Frag} {mg : Str → Option Value} {base : Heap} {CX : CXT} {k : Nat} {f : Addr} {fd : FuncData} {ps : List Str} {sp sp' : Sp} (F : FnG P w K mg base CX k f fd ps sp) (h : ∀ vs H Q E, sp' vs H Q E → sp vs H Q E) : FnG P w K mg base CX k f fd ps sp' :=
  ⟨fun vs H Q E q => F.len vs H Q E (h _ _ _ _ q), fun A o s H args us vs Q E hr he hb hv hs => F.run A o s H args us vs Q E hr he hb hv (h _ _ _ _ hs)⟩
section
variable {X : Cx} {CX : CXT} {k : Nat} {f C : Addr} {fd : FuncData} {ps : List Str} {sp : Sp} {E : L2.St → XK} {dvs : List V} {ds : List Value} {x m : Str} {p pos apos : Pos} {e o : Expr} {es : List Expr} {ta : TE} {t : TA}
theorem runS {pins : List (Addr × Obj)} {σ : L2.St} {H : Hp} {s : Shared} {Q : VK} {us : List Value} {vs : List V} (F : FnG X.prog X.w X.K X.mg X.base CX k f fd ps sp) (hr : RoomG k X.A) (hb : L2.Binds X.K fd ps ds) (hd : Vals dvs ds) (hx : PassesAt CX X σ (E σ))
    (I : Inv X pins σ H s) (r : Vals vs us) (h : sp (vs ++ dvs) H Q (E σ)) : wpAny (model X.prog X.w) X.A (call (.ref f) us) (EP X pins σ Q) X.xe s := by
  have r2 : Vals (vs ++ dvs) (us ++ ds) := r.append hd
  have hl : (us ++ ds).length = ps.length := by rw [← r2.length]; exact F.len _ _ _ _ h
  refine wpAny_call (codeAny_mono (F.run X.A X.stack s H ⟨us, []⟩ (us ++ ds) (vs ++ dvs) Q (E σ) hr I.env0 (hb s us I.kIn hl) r2 h) fun r s' hq => ?_)
  cases r with
  | error e => exact hx pins H s e s' I hq
  | ok fl =>
    cases fl with
    | ret u => exact I.after hq
    | next => exact False.elim hq
    | brk => exact False.elim hq
    | cont => exact False.elim hq
def tCalS (sp : Sp) (dvs : List V) (E : L2.St → XK) (t : TA) : TE := fun σ H Q => t σ H fun vs H1 => sp (vs ++ dvs) H1 Q (E σ)
theorem pcS (F : FnG X.prog X.w X.K X.mg X.base CX k f fd ps sp) (hr : RoomG k X.A) (hg : Gl X x) (hm : X.mg x = some (.ref f)) (hk : PySem.W.keepIn X.K (.ref f) = true) (hb : L2.Binds X.K fd ps ds) (hd : Vals dvs ds) (hx : ∀ σ, PassesAt CX X σ (E σ))
    (ha : PA X (e :: es) t) (hdb : (x == ("__debug__" : Str)) = false := by decide) (he : starEach (e :: es) X.env = (false, eval e X.env) :: starEach es X.env := by rfl) (hpl : (backTo pos (starEach es X.env)).any (·.1) = false := by rfl) :
    PE X (.Call (.Name x p) (e :: es) [] pos) (tCalS sp dvs E t) := by
  refine ⟨fun pins s σ H Q I h => ?_⟩
  refine wpAny_Call_Name_kw (ld_glob I hg hm ?_ hdb)
  refine PySem.W.callWith_K (h₀ := X.base) I.ok.mod.kin hk (thn (ha.run pos pins s σ H _ I h) fun us s1 ⟨vs, H1, I1, r, q⟩ => ⟨I1.kIn, ?_⟩) he hpl
  exact runS F hr hb hd (hx σ) I1 r q
theorem pcS0 (F : FnG X.prog X.w X.K X.mg X.base CX k f fd ps sp) (hr : RoomG k X.A) (hg : Gl X x) (hm : X.mg x = some (.ref f)) (hk : PySem.W.keepIn X.K (.ref f) = true) (hb : L2.Binds X.K fd ps ds) (hd : Vals dvs ds) (hx : ∀ σ, PassesAt CX X σ (E σ))
    (hdb : (x == ("__debug__" : Str)) = false := by decide) : PE X (.Call (.Name x p) [] [] pos) (tCalS sp dvs E tNil) := by
  refine ⟨fun pins s σ H Q I h => ?_⟩
  refine wpAny_Call_Name_kw (ld_glob I hg hm ?_ hdb)
  exact PySem.W.callWith_K0 I.kIn hk (runS (us := []) F hr hb hd (hx σ) I .nil h)
def tMetS (C : Addr) (m : Str) (sp : Sp) (dvs : List V) (E : L2.St → XK) (ta : TE) (t : TA) : TE := fun σ H Q => ta σ H fun x H1 => ∃ a dx fs, x = .ref a ∧ H1 a = some (.ins C dx fs) ∧ fs.lookup m = none ∧
  t σ H1 fun vs H2 => sp (x :: (vs ++ dvs)) H2 Q (E σ)
theorem pmS {pl : Sem Bool} (he : PE X o ta) (c : Cls X.K C) (hm : Meth X.K C m f) (F : FnG X.prog X.w X.K X.mg X.base CX k f fd ps sp) (hr : RoomG k X.A) (hb : L2.Binds X.K fd ps ds) (hd : Vals dvs ds) (hx : ∀ σ, PassesAt CX X σ (E σ)) (ha : PA X (e :: es) t)
    (hst : starEach (e :: es) X.env = (false, eval e X.env) :: starEach es X.env := by rfl) (hpl : (backTo pos (starEach es X.env)).any (·.1) = false := by rfl)
    (ht : eval (.Call (.Attribute o m apos) (e :: es) [] pos) X.env = (do
      let ov ← eval o X.env
      standAt apos.atName
      let (f, first) ← holding [ov] (getMethod ov m pl)
      callWith pos f first (backTo pos (starEach (e :: es) X.env)) (backToKw pos (keywordEach [] X.env))) := by rfl) :
    PE X (.Call (.Attribute o m apos) (e :: es) [] pos) (tMetS C m sp dvs E ta t) := by
  refine ⟨fun pins s σ H Q I h => ?_⟩
  refine PySem.W.methodCall_KW (pl := pl) (thn (he.run pins s σ H _ I h) fun u s1 ⟨x, H1, I1, rx, a, dx, fs, ex, ea, l, q⟩ => ?_) ht
  subst ex
  obtain rfl : u = Value.ref a := rx
  refine getmeth_ok I1 ea c hm l ?_
  refine PySem.W.callWith_K (first := [.ref a]) (h₀ := X.base) I.ok.mod.kin hm.kp (thn (ha.run pos pins s1 σ H1 _ I1 q) fun us s2 ⟨vs, H2, I2, r, q2⟩ => ⟨I2.kIn, ?_⟩) hst hpl
  exact runS (us := .ref a :: us) (vs := .ref a :: vs) F hr hb hd (hx σ) I2 (.cons rfl r) q2
theorem pmS0 {pl : Sem Bool} (he : PE X o ta) (c : Cls X.K C) (hm : Meth X.K C m f) (F : FnG X.prog X.w X.K X.mg X.base CX k f fd ps sp) (hr : RoomG k X.A) (hb : L2.Binds X.K fd ps ds) (hd : Vals dvs ds) (hx : ∀ σ, PassesAt CX X σ (E σ))
    (ht : eval (.Call (.Attribute o m apos) [] [] pos) X.env = (do
      let ov ← eval o X.env
      standAt apos.atName
      let (f, first) ← holding [ov] (getMethod ov m pl)
      callWith pos f first (backTo pos (starEach [] X.env)) (backToKw pos (keywordEach [] X.env))) := by rfl) :
    PE X (.Call (.Attribute o m apos) [] [] pos) (tMetS C m sp dvs E ta tNil) := by
  refine ⟨fun pins s σ H Q I h => ?_⟩
  refine PySem.W.methodCall_KW (pl := pl) (thn (he.run pins s σ H _ I h) fun u s1 ⟨x, H1, I1, rx, a, dx, fs, ex, ea, l, q⟩ => ?_) ht
  subst ex
  obtain rfl : u = Value.ref a := rx
  refine getmeth_ok I1 ea c hm l ?_
  exact PySem.W.callWith_K0 (first := [.ref a]) I1.kIn hm.kp (runS (us := [.ref a]) (vs := [.ref a]) F hr hb hd (hx σ) I1 (.cons rfl .nil) q)
def tMakS (C : Addr) (sp : Sp) (dvs : List V) (E : L2.St → XK) (t : TA) : TE := fun σ H Q => t σ H fun vs H1 => ∀ x dx, H1 x = none → H1 dx = none → dx ≠ x →
  sp (.ref x :: (vs ++ dvs)) (upd (upd H1 dx (.own x)) x (.ins C dx [])) (fun v H2 => v = .non ∧ Q (.ref x) H2) (E σ)
theorem runMk {pins : List (Addr × Obj)} {σ : L2.St} {H : Hp} {s : Shared} {Q : VK} {us : List Value} {vs : List V} (M : Mk X.K C f) (F : FnG X.prog X.w X.K X.mg X.base CX k f fd ps sp) (hr : RoomG (k + 1) X.A) (hb : L2.Binds X.K fd ps ds) (hd : Vals dvs ds)
    (hx : PassesAt CX X σ (E σ)) (I : Inv X pins σ H s) (r : Vals vs us)
    (h : ∀ x dx, H x = none → H dx = none → dx ≠ x → sp (.ref x :: (vs ++ dvs)) (upd (upd H dx (.own x)) x (.ins C dx [])) (fun v H2 => v = .non ∧ Q (.ref x) H2) (E σ)) :
    wpAny (model X.prog X.w) X.A (call (.ref C) us) (EP X pins σ Q) X.xe s := by
  have hq := h (s.heap.objs.size + 1) s.heap.objs.size (I.hok.fresh (Nat.le_succ _)) (I.hok.fresh (Nat.le_refl _)) (Nat.ne_of_lt (Nat.lt_succ_self _))
  have I2 := Inv.made (C := C) I
  have r2 : Vals (V.ref (s.heap.objs.size + 1) :: (vs ++ dvs)) (Value.ref (s.heap.objs.size + 1) :: (us ++ ds)) := .cons rfl (r.append hd)
  have hl : (Value.ref (s.heap.objs.size + 1) :: us ++ ds).length = ps.length := by
    have e := r2.length
    rw [F.len _ _ _ _ hq] at e
    exact e.symm
  refine wpAny_call (make_map (f := f) I.kIn M.makes M.init (beq_iff_eq.mp M.fn) (codeAny_mono (F.run _ X.stack _ _ ⟨Value.ref (s.heap.objs.size + 1) :: us, []⟩ (Value.ref (s.heap.objs.size + 1) :: (us ++ ds)) _ _ (E σ) (hr.make C us [])
    (I2.env0.make C us []) (hb _ (Value.ref (s.heap.objs.size + 1) :: us) I2.kIn hl) r2 hq) fun r s' hq' => ?_))
  cases r with
  | error e => exact hx pins _ _ e s' I2 hq'
  | ok fl =>
    cases fl with
    | ret u =>
      obtain ⟨v, H', I3, rv, ev, q3⟩ := I2.after hq'
      subst ev
      exact ⟨rv, ⟨V.ref (s.heap.objs.size + 1), H', I3, rfl, q3⟩⟩
    | next => exact False.elim hq'
    | brk => exact False.elim hq'
    | cont => exact False.elim hq'
theorem pkS (M : Mk X.K C f) (F : FnG X.prog X.w X.K X.mg X.base CX k f fd ps sp) (hr : RoomG (k + 1) X.A) (hg : Gl X x) (hm : X.mg x = some (.ref C)) (hb : L2.Binds X.K fd ps ds) (hd : Vals dvs ds) (hx : ∀ σ, PassesAt CX X σ (E σ))
    (ha : PA X (e :: es) t) (hdb : (x == ("__debug__" : Str)) = false := by decide) (he : starEach (e :: es) X.env = (false, eval e X.env) :: starEach es X.env := by rfl) (hpl : (backTo pos (starEach es X.env)).any (·.1) = false := by rfl) :
    PE X (.Call (.Name x p) (e :: es) [] pos) (tMakS C sp dvs E t) := by
  refine ⟨fun pins s σ H Q I h => ?_⟩
  refine wpAny_Call_Name_kw (ld_glob I hg hm ?_ hdb)
  refine PySem.W.callWith_K (h₀ := X.base) I.ok.mod.kin M.kp (thn (ha.run pos pins s σ H _ I h) fun us s1 ⟨vs, H1, I1, r, q⟩ => ⟨I1.kIn, ?_⟩) he hpl
  exact runMk M F hr hb hd (hx σ) I1 r q
end
inductive FRes where
  | ok (r : O) (ps : List O)
  | ex (x : Exn)
  | bad
  | all (f : V → FRes)
abbrev Fn := List O → FRes
def FWR (r : FRes) (A : O → List O → Prop) (B : Exn → Prop) : Prop := match r with
  | .ok r ps => A r ps
  | .ex x => B x
  | .bad => False
  | .all f => ∀ v, FWR (f v) A B
def FW (r : FRes) (A : O → List O → Prop) (B : Exn → Prop) : Prop := match r with
  | .ok r ps => A r ps
  | .ex x => B x
  | .bad => False
  | .all f => ∀ v, FWR (f v) A B
theorem fwR_eq {A : O → List O → Prop} {B : Exn → Prop} : ∀ {r : FRes}, FWR r A B = FW r A B
  | .ok _ _ => rfl
  | .ex _ => rfl
  | .bad => rfl
  | .all _ => rfl
theorem fw_all {f : V → FRes} {A : O → List O → Prop} {B : Exn → Prop} : FW (.all f) A B ↔ ∀ v, FW (f v) A B := forall_congr' fun v => by rw [fwR_eq]
def FRes.resR : FRes → (O → List O → Res O) → Gs → Res O
  | .ok r ps, k, _ => k r ps
  | .ex x, _, g => .ex x g
  | .bad, _, _ => .bad
  | .all f, k, g => .all fun v => (f v).resR k g
def FRes.res (r : FRes) (k : O → List O → Res O) (g : Gs) : Res O := match r with
  | .ok r ps => k r ps
  | .ex x => .ex x g
  | .bad => .bad
  | .all f => .all fun v => (f v).resR k g
theorem FRes.resR_eq {k : O → List O → Res O} {g : Gs} : ∀ {r : FRes}, r.resR k g = r.res k g
  | .ok _ _ => rfl
  | .ex _ => rfl
  | .bad => rfl
  | .all _ => rfl
theorem FRes.wp_res {k : O → List O → Res O} {g : Gs} {A : O → Gs → Prop} {B : Exn → Gs → Prop} : ∀ {r : FRes}, Wp (r.res k g) A B ↔ FW r (fun o ps => Wp (k o ps) A B) (fun x => B x g)
  | .ok r ps => Iff.rfl
  | .ex x => Iff.rfl
  | .bad => Iff.rfl
  | .all f => wp_all.trans ((forall_congr' fun v => by rw [FRes.resR_eq]; exact FRes.wp_res (r := f v)).trans fw_all.symm)
theorem FW.imp {A A' : O → List O → Prop} {B B' : Exn → Prop} : ∀ {r : FRes}, FW r A B → (∀ a e, A a e → A' a e) → (∀ x, B x → B' x) → FW r A' B'
  | .ok o ps, h, ha, hb => ha _ _ h
  | .ex x, h, ha, hb => hb _ h
  | .bad, h, ha, hb => h
  | .all f, h, ha, hb => fw_all.mpr fun v => FW.imp (r := f v) (fw_all.mp h v) ha hb
def spF (K : PySem.W.Frag) (mg : Str → Option Value) (np : Nat) (f : Fn) : Sp := fun vs H Q E => vs.length = np ∧ ∃ (os : List O) (Ex : List (Addr × HO)) (T : Roots), os.length = np ∧ Rel K mg H Ex (vs.zip os ++ T) [] ∧
  FW (f os) (fun r ps => ps.length = np ∧ ∀ v H', Rel K mg H' Ex ((v, r) :: (vs.zip ps ++ T)) [] → Q v H') (fun x => ∀ H' cls d, Rel K mg H' Ex T [] → ExAt mg Ex cls d H' x → E cls d H')
/-- a def of the module, called by its name; ds: its last parameters' defaults, by how many are not given -/
structure Callee (P : Program) (w : World) (K : PySem.W.Frag) (mg : Str → Option Value) (base : Heap) (x : Str) (k np : Nat) (dfs : List PyData) (f : Fn) : Prop where
  ex : ∃ (a : Addr) (fd : FuncData) (ps : List Str) (dvs : List V) (ds : List Value), FnG P w K mg base (L2.CX P w) k a fd ps (spF K mg np f) ∧ mg x = some (.ref a) ∧ PySem.W.keepIn K (.ref a) = true ∧ L2.Binds K fd ps ds ∧ Vals dvs ds ∧ ∀ Hf, DpAll K Hf dvs dfs
/-- a method of the class c -/
structure Methd (P : Program) (w : World) (K : PySem.W.Frag) (mg : Str → Option Value) (base : Heap) (c m : Str) (k np : Nat) (dfs : List PyData) (f : Fn) : Prop where
  ex : ∃ (C a : Addr) (fd : FuncData) (ps : List Str) (dvs : List V) (ds : List Value), FnG P w K mg base (L2.CX P w) k a fd ps (spF K mg np f) ∧ mg c = some (.ref C) ∧ Cls K C ∧ Meth K C m a ∧ L2.Binds K fd ps ds ∧ Vals dvs ds ∧ ∀ Hf, DpAll K Hf dvs dfs
/-- a class that is made by its __init__ -/
structure Maker (P : Program) (w : World) (K : PySem.W.Frag) (mg : Str → Option Value) (base : Heap) (c : Str) (k np : Nat) (dfs : List PyData) (f : Fn) : Prop where
  ex : ∃ (C a : Addr) (fd : FuncData) (ps : List Str) (dvs : List V) (ds : List Value), FnG P w K mg base (L2.CX P w) k a fd ps (spF K mg np f) ∧ mg c = some (.ref C) ∧ Mk K C a ∧ L2.Binds K fd ps ds ∧ Vals dvs ds ∧ ∀ Hf, DpAll K Hf dvs dfs
/-- what a body stands on -/
structure Cc (X : Cx) (W : WX) (k : Nat) : Prop where
  tk : Takes X W
  hr : RoomG k X.A
  calm : X.calm = true
  nd : X.N.Nodup
  own : PySem.PassesOwn (model X.prog X.w) X.A X.env X.xe
inductive Arg where
  | sl (i : Nat)
  | val (o : O)
def valR : List V → List Arg → Roots
  | v :: vs, .val o :: as => (v, o) :: valR vs as
  | _ :: vs, .sl _ :: as => valR vs as
  | _, _ => []
def SlOk (σ : L2.St) : List V → List Arg → Prop
  | v :: vs, .val _ :: as => SlOk σ vs as
  | v :: vs, .sl i :: as => σ[i]? = some (some v) ∧ SlOk σ vs as
  | [], [] => True
  | _, _ => False
def takeA : List Arg → Gs → Option (List O × Gs)
  | [], g => some ([], g)
  | .val o :: r, g => match takeA r g with
    | some (os, g') => some (o :: os, g')
    | none => none
  | .sl i :: r, g => match g[i]? with
    | some (some (.d x)) => match takeA r g with
      | some (os, g') => some (.d x :: os, g')
      | none => none
    | some (some o) => match takeA r (g.set i none) with
      | some (os, g') => some (o :: os, g')
      | none => none
    | _ => none
def giveA : List Arg → List O → Gs → Gs
  | .sl i :: r, o :: os, g => giveA r os (match g[i]? with
    | some none => g.set i (some o)
    | _ => g)
  | .val _ :: r, _ :: os, g => giveA r os g
  | _, _, g => g
section
variable {X : Cx} {W : WX} {pu pv : Bool} {H H' : Hp} {Ex : List (Addr × HO)} {σ : L2.St} {g : Gs} {T T' ws ws' : Roots} {e a b : Expr} {es : List Expr} {m : M O} {pos : Pos}
structure EvU (X : Cx) (W : WX) (es : List Expr) (m : M (List Arg)) : Prop where
  ex : ∃ ts, PEs X es ts ∧ ∀ (σ : L2.St) (H : Hp) (Q : List V → Hp → Prop) (g : Gs) (T : Roots) (Ex : List (Addr × HO)) (ws : Roots), At X H Ex σ g T ws →
    Wp (m g) (fun as g' => ∀ vs H', vs.length = es.length → SlOk σ vs as → At X H' Ex σ g' (valR vs as ++ T) [] → Q vs H')
      (fun x g' => ∀ H' cls d, At X H' Ex σ g' T [] → ExAt X.mg Ex cls d H' x → W cls d σ H') → tAll ts σ H Q
theorem At.noV (a : At X H Ex σ g T ws) : At X H Ex σ g T [] := a.views fun _ h => nomatch h
theorem eu_nil : EvU X W [] (M.ret []) := ⟨[], .nil, fun σ H Q g T Ex ws a w => w [] H rfl trivial a.noV⟩
def valA (m : M O) (ms : M (List Arg)) : M (List Arg) := M.bd m fun o => M.bd ms fun as => M.ret (.val o :: as)
def slA (i : Nat) (ms : M (List Arg)) : M (List Arg) := M.bd ms fun as => M.ret (.sl i :: as)
theorem eu_val {ms : M (List Arg)} (h : Ev X W pu e m) (hs : EvU X W es ms) (st : starEach (e :: es) X.env = (false, eval e X.env) :: starEach es X.env := by rfl) : EvU X W (e :: es) (valA m ms) := by
  obtain ⟨t, h1, h2⟩ := h.ex
  obtain ⟨ts, g1, g2⟩ := hs.ex
  refine ⟨t :: ts, .cons h1 st g1, fun σ H Q g T Ex ws a w => ?_⟩
  refine h2 σ H _ g T Ex ws a (w.bd.imp (fun o g' k v H' s a' => ?_) fun _ _ k => k)
  refine g2 σ H' _ g' _ Ex _ a' (k.bd.imp (fun as g2 k vs H2 hl sl a2 => ?_) fun x g2 k H2 cls d a2 => k H2 cls d a2.drop)
  exact k (v :: vs) H2 (by simp [hl]) sl (a2.perm permIn)
def slIn (i : Nat) (ms : M (List Arg)) : M (List Arg) := fun g => match g[i]? with
  | some (some _) => slA i ms g
  | _ => .bad
theorem eu_sl (i : Nat) {ms : M (List Arg)} {x : Str} (hs : EvU X W es ms) (hN : X.N[i]? = some x := by rfl) (hv : Vis X.env.scope x := by first | exact Or.inl rfl | exact Or.inr (Or.inl rfl) | exact Or.inr (Or.inr rfl)) (hd : (x == ("__debug__" : Str)) = false := by decide)
    (hcd : (x == ("__classdict__" : Str)) = false := by decide) (st : starEach (.Name x pos :: es) X.env = (false, eval (.Name x pos) X.env) :: starEach es X.env := by rfl) : EvU X W (.Name x pos :: es) (slIn i ms) := by
  obtain ⟨ts, g1, g2⟩ := hs.ex
  refine ⟨_ :: ts, .cons (pv i hN hv hd hcd) st g1, fun σ H Q g T Ex ws a w => ?_⟩
  unfold slIn at w
  split at w
  · rename_i o hg
    obtain ⟨v, hv⟩ := a.fit.at_ _ _ hg
    refine ⟨v, hv, ?_⟩
    exact g2 σ H _ g _ Ex _ a (w.bd.imp (fun as g2 k vs H2 hl sl a2 => k (v :: vs) H2 (by simp [hl]) ⟨hv, sl⟩ a2) fun x g2 k H2 cls d a2 => k H2 cls d a2)
  · exact w.elim
theorem takeRel {as : List Arg} : ∀ {vs : List V} {g g' : Gs} {os : List O}, SlOk σ vs as → Fit σ g → Rel X.K X.mg H Ex (roots σ g ++ (valR vs as ++ T)) [] → takeA as g = some (os, g') →
    vs.length = os.length ∧ Fit σ g' ∧ Rel X.K X.mg H Ex (roots σ g' ++ (vs.zip os ++ T)) [] := by
  induction as generalizing T with
  | nil =>
    intro vs g g' os sl f r h
    cases vs with
    | nil =>
      simp only [takeA, Option.some.injEq, Prod.mk.injEq] at h
      obtain ⟨rfl, rfl⟩ := h
      exact ⟨rfl, f, r⟩
    | cons v vs => exact sl.elim
  | cons c r ih =>
    intro vs g g' os sl f rl h
    cases vs with
    | nil => cases c <;> exact sl.elim
    | cons v vs =>
      cases c with
      | val o =>
        simp only [takeA] at h
        cases q : takeA r g with
        | none => rw [q] at h; cases h
        | some p =>
          obtain ⟨os1, g1⟩ := p
          rw [q] at h
          cases h
          have rl' : Rel X.K X.mg H Ex (roots σ g ++ (valR vs r ++ ((v, o) :: T))) [] := rl.perm ((permIn (p := (v, o)) (l := valR vs r) (T := T)).symm.append_left _)
          obtain ⟨h1, h2, h3⟩ := ih (T := (v, o) :: T) (vs := vs) sl f rl' q
          exact ⟨by simp [h1], h2, h3.perm (permIn.append_left _)⟩
      | sl i =>
        obtain ⟨hv, sl⟩ := sl
        simp only [takeA] at h
        split at h
        · rename_i x hg
          cases q : takeA r g with
          | none => rw [q] at h; cases h
          | some p =>
            obtain ⟨os1, g1⟩ := p
            rw [q] at h
            cases h
            have a : At X H Ex σ g (valR vs r ++ T) [] := ⟨f, rl⟩
            have rl' : Rel X.K X.mg H Ex (roots σ g ++ (valR vs r ++ ((v, .d x) :: T))) [] := (a.rd hg hv).rel.perm (List.perm_middle.symm.append_left _)
            obtain ⟨h1, h2, h3⟩ := ih (T := (v, .d x) :: T) (vs := vs) sl f rl' q
            exact ⟨by simp [h1], h2, h3.perm (permIn.append_left _)⟩
        · rename_i o hno hg
          cases q : takeA r (g.set i none) with
          | none => rw [q] at h; cases h
          | some p =>
            obtain ⟨os1, g1⟩ := p
            rw [q] at h
            cases h
            have a : At X H Ex σ g (valR vs r ++ T) [] := ⟨f, rl⟩
            have r2 := a.get hg hv
            have rl' : Rel X.K X.mg H Ex (roots σ (g.set i none) ++ (valR vs r ++ ((v, o) :: T))) [] := by
              refine r2.perm ?_
              exact (List.perm_middle (l₁ := roots σ (g.set i none)) (a := (v, o)) (l₂ := valR vs r ++ T)).symm.trans (List.perm_middle.symm.append_left _)
            obtain ⟨h1, h2, h3⟩ := ih (T := (v, o) :: T) (vs := vs) sl (f.clr i) rl' q
            exact ⟨by simp [h1], h2, h3.perm (permIn.append_left _)⟩
        · cases h
theorem giveRel {as : List Arg} : ∀ {vs : List V} {g : Gs} {os : List O}, SlOk σ vs as → vs.length = os.length → Fit σ g → Rel X.K X.mg H Ex (roots σ g ++ (vs.zip os ++ T)) [] → At X H Ex σ (giveA as os g) T [] := by
  induction as generalizing T with
  | nil =>
    intro vs g os sl hl f r
    cases vs with
    | nil => exact ⟨f, r⟩
    | cons v vs => exact sl.elim
  | cons c r ih =>
    intro vs g os sl hl f rl
    cases vs with
    | nil => cases c <;> exact sl.elim
    | cons v vs =>
      cases os with
      | nil => simp at hl
      | cons o os =>
        have hl' : vs.length = os.length := by simpa using hl
        have rl1 : Rel X.K X.mg H Ex ((v, o) :: (roots σ g ++ (vs.zip os ++ T))) [] := rl.perm List.perm_middle
        cases c with
        | val o' => exact ih (vs := vs) sl hl' f rl1.drop
        | sl i =>
          obtain ⟨hv, sl⟩ := sl
          simp only [giveA]
          split
          · rename_i hg
            have e : g.set i none = g := setNone (by intro o; rw [hg]; simp)
            have a : At X H Ex σ (g.set i (some o)) (vs.zip os ++ T) [] := .put f hv (by rw [e]; exact rl1)
            exact ih (vs := vs) sl hl' a.fit a.rel
          · exact ih (vs := vs) sl hl' f rl1.drop
/-- a call: owned values of names are lent and come back as they are left -/
def callM (f : Fn) (dfs : List PyData) (ms : M (List Arg)) : M O := M.bd ms fun as g => match takeA as g with
  | some (os, g') => (f (os ++ dfs.map O.d)).res (fun r ps => if ps.length = (os ++ dfs.map O.d).length then .ok r (giveA as (ps.take os.length) g') else .bad) g'
  | none => .bad
theorem relDfs {K : PySem.W.Frag} {mg : Str → Option Value} {rs : Roots} : ∀ {dvs : List V} {dfs : List PyData}, (∀ Hf, DpAll K Hf dvs dfs) → Rel K mg H Ex rs ws → Rel K mg H Ex (dvs.zip (dfs.map O.d) ++ rs) ws ∧ dvs.length = dfs.length
  | [], [], _, r => ⟨r, rfl⟩
  | [], _ :: _, h, _ => by cases h (fun _ => none)
  | _ :: _, [], h, _ => by cases h (fun _ => none)
  | v :: dvs, x :: dfs, h, r => by
    have h1 : ∀ Hf, Dp K Hf v x := fun Hf => by cases h Hf with | cons a b => exact a
    have h2 : ∀ Hf, DpAll K Hf dvs dfs := fun Hf => by cases h Hf with | cons a b => exact b
    obtain ⟨q, l⟩ := relDfs h2 r
    exact ⟨q.data h1, by simp [l]⟩
theorem callCore {f : Fn} {dfs : List PyData} {dvs : List V} {as : List Arg} {vs : List V} {np : Nat} {Q : VK} (hd : ∀ Hf, DpAll X.K Hf dvs dfs) (sl : SlOk σ vs as) (a : At X H Ex σ g (valR vs as ++ T) []) (hn : (vs ++ dvs).length = np)
    (w : Wp ((fun g => match takeA as g with
      | some (os, g') => (f (os ++ dfs.map O.d)).res (fun r ps => if ps.length = (os ++ dfs.map O.d).length then .ok r (giveA as (ps.take os.length) g') else .bad) g'
      | none => .bad : M O) g) (fun o g' => ∀ v H', At X H' Ex σ g' ((v, o) :: T) [] → Q v H') (fun x g' => ∀ H' cls d, At X H' Ex σ g' T [] → ExAt X.mg Ex cls d H' x → W cls d σ H')) :
    spF X.K X.mg np f (vs ++ dvs) H Q (WE W σ) := by
  refine ⟨hn, ?_⟩
  simp only at w
  cases q : takeA as g with
  | none => rw [q] at w; exact w.elim
  | some p =>
    obtain ⟨os, g'⟩ := p
    rw [q] at w
    simp only at w
    obtain ⟨h1, h2, h3⟩ := takeRel sl a.fit a.rel q
    obtain ⟨h4, h5⟩ := relDfs hd h3
    have hz : (vs ++ dvs).zip (os ++ dfs.map O.d) = vs.zip os ++ dvs.zip (dfs.map O.d) := List.zip_append h1
    have hlen : (os ++ dfs.map O.d).length = np := by rw [← hn]; simp [h1, h5]
    refine ⟨os ++ dfs.map O.d, Ex, roots σ g' ++ T, hlen, ?_, ?_⟩
    · rw [hz, List.append_assoc]
      exact h4.perm (((List.perm_append_comm_assoc _ _ _).append_left _).trans (List.perm_append_comm_assoc _ _ _))
    · refine (FRes.wp_res.mp w).imp (fun r ps w => ?_) (fun x w => ?_)
      rotate_left
      · intro H' cls d r2 xa
        exact w H' cls d ⟨h2, r2⟩ xa
      · by_cases hps : ps.length = (os ++ dfs.map O.d).length
        · simp only [hps, if_true] at w
          rw [hlen] at hps
          refine ⟨hps, fun v H' r2 => ?_⟩
          have e1 : ps = ps.take os.length ++ ps.drop os.length := (List.take_append_drop _ _).symm
          have hl2 : vs.length = (ps.take os.length).length := by
            rw [List.length_take, hps, ← hlen, h1]
            simp
          have hz2 : (vs ++ dvs).zip ps = vs.zip (ps.take os.length) ++ dvs.zip (ps.drop os.length) := by
            conv => lhs; rw [e1]
            exact List.zip_append hl2
          rw [hz2] at r2
          refine w v H' ?_
          refine giveRel (T := (v, r) :: T) sl hl2 h2 ?_
          have r3 : Rel X.K X.mg H' Ex (dvs.zip (ps.drop os.length) ++ (roots σ g' ++ (vs.zip (ps.take os.length) ++ (v, r) :: T))) [] := by
            refine r2.perm (List.Perm.symm ?_)
            rw [List.append_assoc]
            refine ((List.perm_middle.append_left _).append_left _).trans ?_
            refine (List.perm_middle.append_left _).trans ?_
            refine List.perm_middle.trans (.cons _ ?_)
            exact ((List.perm_append_comm_assoc _ _ _).append_left _).trans (List.perm_append_comm_assoc _ _ _)
          exact r3.dropL
        · simp only [hps, if_false] at w
          exact w.elim
end
end Z
namespace Z
open PySem PySem.Spec L2
section
variable {X : Cx} {W : WX} {pu pv : Bool} {H H' : Hp} {Ex : List (Addr × HO)} {σ σ' : L2.St} {g : Gs} {T T' ws ws' : Roots} {e a b o : Expr} {es : List Expr} {m : M O} {pos p apos : Pos} {k j np : Nat} {x : Str} {dfs : List PyData} {f : Fn} {ms : M (List Arg)}
theorem dpLen {K : PySem.W.Frag} {Hf : Hp} : ∀ {vs : List V} {ds : List PyData}, DpAll K Hf vs ds → vs.length = ds.length
  | _, _, .nil => rfl
  | _, _, .cons _ t => by simp [dpLen t]
theorem Wp.rt {α : Type} {x : α} {A : α → Gs → Prop} {B : Exn → Gs → Prop} (h : Wp (M.ret x g) A B) : A x g := h
theorem ev_call (c : Cc X W k) (cal : Callee X.prog X.w X.K X.mg X.base x j np dfs f) (hj : j ≤ k) (hg : Gl X x) (h : EvU X W (e :: es) ms) (hn : (e :: es).length + dfs.length = np := by rfl)
    (hdb : (x == ("__debug__" : Str)) = false := by decide) (he : starEach (e :: es) X.env = (false, eval e X.env) :: starEach es X.env := by rfl) (hpl : (backTo pos (starEach es X.env)).any (·.1) = false := by rfl) :
    Ev X W false (.Call (.Name x p) (e :: es) [] pos) (callM f dfs ms) := by
  obtain ⟨C, fd, ps, dvs, ds, F, hm, hk, hb, hd, hdd⟩ := cal.ex
  obtain ⟨ts, g1, g2⟩ := h.ex
  refine ⟨_, pcS F (c.hr.mono hj) hg hm hk hb hd (fun σ => passAt c.tk σ) g1.pa hdb he hpl, fun σ H Q g T Ex ws a w => ?_⟩
  refine g2 σ H _ g T Ex ws a (w.bd.imp (fun as g' k vs H' hl sl a' => ?_) fun _ _ k => k)
  refine callCore hdd sl a' (by rw [List.length_append, hl, dpLen (hdd fun _ => none)]; exact hn) (k.imp (fun o g2 k v H2 a2 => k v H2 (fun z => by cases z) a2) fun _ _ k => k)
theorem ev_call0 (c : Cc X W k) (cal : Callee X.prog X.w X.K X.mg X.base x j np dfs f) (hj : j ≤ k) (hg : Gl X x) (hn : dfs.length = np := by rfl)
    (hdb : (x == ("__debug__" : Str)) = false := by decide) : Ev X W false (.Call (.Name x p) [] [] pos) (callM f dfs (M.ret [])) := by
  obtain ⟨C, fd, ps, dvs, ds, F, hm, hk, hb, hd, hdd⟩ := cal.ex
  refine ⟨_, pcS0 F (c.hr.mono hj) hg hm hk hb hd (fun σ => passAt c.tk σ) hdb, fun σ H Q g T Ex ws a w => ?_⟩
  refine callCore (as := []) (vs := []) hdd trivial a.noV (by rw [List.nil_append, dpLen (hdd fun _ => none)]; exact hn) (w.bd.rt.imp (fun o g2 k v H2 a2 => k v H2 (fun z => by cases z) a2) fun _ _ k => k)
def noKey {α : Type} (m : Str) (fs : List (Str × α)) : Bool := !((fs.map (·.1)).contains m)
theorem noKeyLook {α β : Type} {m : Str} {fs : List (Str × α)} {gs : List (Str × β)} (h : noKey m fs = true) (e : gs.map (·.1) = fs.map (·.1)) : gs.lookup m = none := by
  unfold noKey at h
  rw [← e] at h
  rw [List.lookup_eq_none_iff]
  intro q hq
  have h' : ¬ (gs.map (·.1)).contains m = true := by simpa using h
  have : m ≠ q.1 := fun z => h' (by rw [List.contains_iff_mem]; exact List.mem_map.mpr ⟨q, hq, z.symm⟩)
  simpa using this
theorem viewIns {K : PySem.W.Frag} {mg : Str → Option Value} {rs : Roots} {v : V} {c : Str} {fos : List (Str × O)} (r : Rel K mg H Ex rs ((v, .ins c fos) :: ws)) : ∃ a C dx fvs, v = .ref a ∧ H a = some (.ins C dx fvs) ∧ mg c = some (.ref C) ∧ fvs.map (·.1) = fos.map (·.1) := by
  obtain ⟨Hf, as, s, he, ho, nd, hn, hw⟩ := r.ex
  obtain ⟨bs, h⟩ := hw _ List.mem_cons_self
  cases h with
  | ins h c k t => exact ⟨_, _, _, _, rfl, h, c, k⟩
inductive Fl where
  | next
  | ret (o : O)
  | brk
  | cnt
def Pin (np : Nat) (σ σ' : L2.St) : Prop := ∀ i, i < np → σ'[i]? = σ[i]?
theorem Pin.refl {σ : L2.St} : Pin np σ σ := fun _ _ => rfl
theorem Pin.trans {σ σ1 σ2 : L2.St} (a : Pin np σ σ1) (b : Pin np σ1 σ2) : Pin np σ σ2 := fun i h => (b i h).trans (a i h)
theorem Pin.set {σ : L2.St} {i : Nat} {v : Option V} (h : np ≤ i) : Pin np σ (σ.set i v) := fun j hj => List.getElem?_set_ne (by omega)
def SPost (X : Cx) (np : Nat) (σ : L2.St) (T : Roots) (Ex : List (Addr × HO)) (D : Ends) : Fl → Gs → Prop
  | .next, g' => ∀ σ' H', Pin np σ σ' → At X H' Ex σ' g' T [] → D.nx σ' H'
  | .ret o, g' => ∀ v σ' H', Pin np σ σ' → At X H' Ex σ' g' ((v, o) :: T) [] → D.rt v H'
  | .brk, g' => ∀ σ' H', Pin np σ σ' → At X H' Ex σ' g' T [] → D.bk σ' H'
  | .cnt, g' => ∀ σ' H', Pin np σ σ' → At X H' Ex σ' g' T [] → D.ct σ' H'
def XPost (X : Cx) (W : WX) (np : Nat) (σ : L2.St) (T : Roots) (Ex : List (Addr × HO)) : Exn → Gs → Prop :=
  fun x g' => ∀ σ' H' cls d, Pin np σ σ' → At X H' Ex σ' g' T [] → ExAt X.mg Ex cls d H' x → W cls d σ' H'
structure EvS (X : Cx) (W : WX) (np : Nat) (st : Stmt) (m : M Fl) : Prop where
  ex : ∃ t, PS X st t ∧ ∀ (σ : L2.St) (H : Hp) (D : Ends) (g : Gs) (T : Roots) (Ex : List (Addr × HO)), At X H Ex σ g T [] → Wp (m g) (SPost X np σ T Ex D) (XPost X W np σ T Ex) → t D σ H
structure EvSs (X : Cx) (W : WX) (np : Nat) (st : List Stmt) (m : M Fl) : Prop where
  ex : ∃ t, PSs X st t ∧ ∀ (σ : L2.St) (H : Hp) (D : Ends) (g : Gs) (T : Roots) (Ex : List (Addr × HO)), At X H Ex σ g T [] → Wp (m g) (SPost X np σ T Ex D) (XPost X W np σ T Ex) → t D σ H
theorem SPost.pin {D : Ends} {fl : Fl} {g' : Gs} {σ1 : L2.St} (h : SPost X np σ T Ex D fl g') (p : Pin np σ σ1) : SPost X np σ1 T Ex D fl g' := by
  cases fl with
  | next => exact fun σ' H' q a => h σ' H' (p.trans q) a
  | ret o => exact fun v σ' H' q a => h v σ' H' (p.trans q) a
  | brk => exact fun σ' H' q a => h σ' H' (p.trans q) a
  | cnt => exact fun σ' H' q a => h σ' H' (p.trans q) a
theorem XPost.pin {x : Exn} {g' : Gs} {σ1 : L2.St} (h : XPost X W np σ T Ex x g') (p : Pin np σ σ1) : XPost X W np σ1 T Ex x g' := fun σ' H' cls d q a e => h σ' H' cls d (p.trans q) a e
section
variable {st : Stmt} {rest : List Stmt} {ma mb : M Fl} {mo : M O}
theorem ess_nil : EvSs X W np [] (M.ret .next) := ⟨_, pss_nil, fun σ H D g T Ex a w => w σ H .refl a⟩
def seqM (m n : M Fl) : M Fl := M.bd m fun fl => match fl with
  | .next => n
  | .ret o => M.ret (.ret o)
  | .brk => M.ret .brk
  | .cnt => M.ret .cnt
theorem ess_one (h : EvS X W np st ma) : EvSs X W np [st] ma := by
  obtain ⟨t, h1, h2⟩ := h.ex
  exact ⟨t, pss_one h1, h2⟩
theorem ess_cons (h : EvS X W np st ma) (hs : EvSs X W np rest mb) : EvSs X W np (st :: rest) (seqM ma mb) := by
  obtain ⟨t, h1, h2⟩ := h.ex
  obtain ⟨u, g1, g2⟩ := hs.ex
  refine ⟨_, pss_cons h1 g1, fun σ H D g T Ex a w => h2 σ H _ g T Ex a (w.bd.imp (fun fl g' k => ?_) fun x g' k => k)⟩
  cases fl with
  | next => exact fun σ' H' p a' => g2 σ' H' D g' T Ex a' (k.imp (fun fl g2 k => k.pin p) fun x g2 k => k.pin p)
  | ret o => exact k
  | brk => exact k
  | cnt => exact k
def retM (m : M O) : M Fl := M.bd m fun o => M.ret (.ret o)
theorem es_ret (h : Ev X W pu e mo) : EvS X W np (.Return (some e) pos) (retM mo) := by
  obtain ⟨t, h1, h2⟩ := h.ex
  exact ⟨_, ps_ret h1, fun σ H D g T Ex a w => h2 σ H _ g T Ex [] a (w.bd.imp (fun o g' k v H' s a' => k v σ H' .refl a'.noV) fun x g' k H' cls d a' e => k σ H' cls d .refl a' e)⟩
def dropM (m : M O) : M Fl := M.bd m fun _ => M.ret .next
theorem es_expr (h : Ev X W pu e mo) (hs : swapsWith e none pos.line X.env = pure false := by rfl) : EvS X W np (.Expr e pos) (dropM mo) := by
  obtain ⟨t, h1, h2⟩ := h.ex
  exact ⟨_, ps_expr h1 hs, fun σ H D g T Ex a w => h2 σ H _ g T Ex [] a (w.bd.imp (fun o g' k v H' s a' => k σ H' .refl a'.drop.noV) fun x g' k H' cls d a' e => k σ H' cls d .refl a' e)⟩
theorem es_if {c : Expr} {A B : List Stmt} {mc : M Bool} (hc : EvT X W pu c mc) (ha : EvSs X W np A ma) (hb : EvSs X W np B mb) : EvS X W np (.If c A B pos) (ifM mc ma mb) := by
  obtain ⟨tc, c1, c2⟩ := hc.ex
  obtain ⟨ta, a1, a2⟩ := ha.ex
  obtain ⟨tb, b1, b2⟩ := hb.ex
  refine ⟨_, ps_if c1 a1 b1, fun σ H D g T Ex a w => c2 σ H _ g T Ex [] a (w.bd.imp (fun c g' k H' s a' => ?_) fun x g' k H' cls d a' e => k σ H' cls d .refl a' e)⟩
  cases c with
  | true => exact iteT (a2 σ H' D g' T Ex a'.noV k)
  | false => exact iteF (b2 σ H' D g' T Ex a'.noV k)
structure EvG (X : Cx) (W : WX) (np : Nat) (tg : Expr) (f : O → M Unit) : Prop where
  ex : ∃ t, PG X tg t ∧ ∀ (σ : L2.St) (H : Hp) (Q : L2.St → Hp → Prop) (g : Gs) (T : Roots) (Ex : List (Addr × HO)) (v : V) (o : O), At X H Ex σ g ((v, o) :: T) [] →
    Wp (f o g) (fun _ g' => ∀ σ' H', Pin np σ σ' → At X H' Ex σ' g' T [] → Q σ' H') (XPost X W np σ T Ex) → t v σ H Q
def setM (i : Nat) (o : O) : M Unit := fun g => .ok () (g.set i (some o))
theorem At.store {i : Nat} {v : V} {o : O} (a : At X H Ex σ g ((v, o) :: T) ws) (hi : i < σ.length) : At X H Ex (σ.set i (some v)) (g.set i (some o)) T ws := ⟨a.fit.set i v (some o), a.rel.setAt a.fit hi⟩
theorem At.storeAny {i : Nat} {v : V} {o : O} (a : At X H Ex σ g ((v, o) :: T) ws) : At X H Ex (σ.set i (some v)) (g.set i (some o)) T ws := by
  by_cases hi : i < σ.length
  · exact a.store hi
  · have e1 : σ.set i (some v) = σ := List.set_eq_of_length_le (by omega)
    have e2 : g.set i (some o) = g := List.set_eq_of_length_le (by rw [← a.fit.len]; omega)
    rw [e1, e2]
    exact a.drop
theorem eg_name (i : Nat) {x : Str} (hnp : np ≤ i) (hN : X.N.Nodup) (hi : X.N[i]? = some x) (hx : Loc X.env.scope x) (hf : X.fn x = true ∨ X.env.scope.names.lookup x = some .local := by first | exact .inl rfl | exact .inr rfl | assumption) : EvG X W np (.Name x pos) (setM i) :=
  ⟨_, pg_name hN hi hx hf, fun σ H Q g T Ex v o a w => w _ _ (Pin.set hnp) a.storeAny⟩
def asgM (m : M O) (f : O → M Unit) : M Fl := M.bd m fun o => M.bd (f o) fun _ => M.ret .next
theorem es_set (i : Nat) {x : Str} {pos' : Pos} (hnp : np ≤ i) (hN : X.N.Nodup) (hi : X.N[i]? = some x) (hx : Loc X.env.scope x) (h : Ev X W pu e mo) (hs : swapsWith e (some (.Name x pos')) pos.line X.env = pure false := by rfl) (hf : X.fn x = true ∨ X.env.scope.names.lookup x = some .local := by first | exact .inl rfl | exact .inr rfl | assumption) :
    EvS X W np (.Assign [.Name x pos'] e pos) (asgM mo (setM i)) := by
  obtain ⟨t, h1, h2⟩ := h.ex
  exact ⟨_, ps_set hN hi hx h1 hs hf, fun σ H D g T Ex a w => h2 σ H _ g T Ex [] a (w.bd.imp (fun o g' k v H' s a' => k _ H' (Pin.set hnp) a'.noV.storeAny) fun x g' k H' cls d a' e => k σ H' cls d .refl a' e)⟩
theorem es_asg {tg : Expr} {f : O → M Unit} (h : Ev X W pu e mo) (hg : EvG X W np tg f) (hs : swapsWithSole [tg] e pos.line X.env = pure false := by rfl) (hw : swappedStores [tg] e X.env = pure none := by rfl)
    (h1 : (assignEach [tg] X.env).map (·.2) = [assign tg X.env] := by rfl) : EvS X W np (.Assign [tg] e pos) (asgM mo f) := by
  obtain ⟨t, c1, c2⟩ := h.ex
  obtain ⟨u, d1, d2⟩ := hg.ex
  refine ⟨_, ps_asg c1 d1 hs hw h1, fun σ H D g T Ex a w => c2 σ H _ g T Ex [] a (w.bd.imp (fun o g' k v H' s a' => ?_) fun x g' k H' cls d a' e => k σ H' cls d .refl a' e)⟩
  refine d2 σ H' _ g' T Ex v o a'.noV ?_
  exact k.bd
end
end
end Z
namespace Z
open PySem PySem.Spec L2
section
variable {X : Cx} {W : WX} {pu pv pw : Bool} {H H' : Hp} {Ex : List (Addr × HO)} {σ σ' : L2.St} {g : Gs} {T T' ws ws' : Roots} {e a b o : Expr} {es : List Expr} {m : M O} {pos p apos : Pos} {k j np : Nat} {x : Str}
def nilG : List PyData → M Unit
  | [] => M.ret ()
  | _ => M.no
def consG (i : Nat) (f : List PyData → M Unit) : List PyData → M Unit
  | x :: r => M.bd (setM i (.d x)) fun _ => f r
  | _ => M.no
def tupG (f : List PyData → M Unit) : O → M Unit
  | .d (.tuple ds) => f ds
  | _ => M.no
theorem tupG_is {f : List PyData → M Unit} {o : O} {g : Gs} {A : Unit → Gs → Prop} {B : Exn → Gs → Prop} (w : Wp (tupG f o g) A B) : ∃ ds, o = .d (.tuple ds) ∧ Wp (f ds g) A B := by
  cases o with
  | d x => cases x <;> first | exact ⟨_, rfl, w⟩ | exact w.elim
  | _ => exact w.elim
theorem Rel.isTup {K : PySem.W.Frag} {mg : Str → Option Value} {rs : Roots} {v : V} {ds : List PyData} (r : Rel K mg H Ex ((v, .d (.tuple ds)) :: rs) ws) : ∃ a vs, v = .ref a ∧ SqT K H a vs ∧ vs.length = ds.length ∧ Rel K mg H Ex (vs.zip (ds.map O.d) ++ rs) ws := by
  obtain ⟨Hf, as, s, he, ho, nd, hn, hw⟩ := r.ex
  cases ho with
  | cons h t =>
    cases h with
    | d h =>
      obtain ⟨a, vs, rfl, h1, h2⟩ := dpTup h
      · have hl := dpLen h2
        refine ⟨a, vs, rfl, sameT s.same h1, hl, ⟨Hf, _, s, he, ?_, nd, hn, hw⟩⟩
        have all : ∀ {vs : List V} {ds : List PyData}, DpAll K Hf.h vs ds → OwL K mg Hf H vs (ds.map O.d) [] := by
          intro vs
          induction vs with
          | nil => intro ds h; cases h; exact .nil
          | cons v vs ih => intro ds h; cases h with | cons p q => exact .cons (as := []) (bs := []) (.d p) (ih q)
        obtain ⟨z1, z2⟩ := zipMap (l := vs) (m := ds.map O.d) (by simpa using hl)
        rw [List.map_append, List.map_append, z1, z2]
        exact owLApp (all h2) t
end
end Z
namespace Z
open PySem PySem.Spec L2
/-- a walk over data, ds, while Tk is held -/
structure Wk (K : PySem.W.Frag) (mg : Str → Option Value) (J : It) (Tk : Roots) (ds : List PyData) : Prop where
  go : ∀ (i : Nat) (H : Hp) (Ex : List (Addr × HO)) (rs : Roots), i < ds.length → Rel K mg H Ex (Tk ++ rs) [] → J.go i H
  stop : ∀ (i : Nat) (H : Hp) (Ex : List (Addr × HO)) (rs : Roots), ds.length ≤ i → Rel K mg H Ex (Tk ++ rs) [] → J.stop i H
  yld : ∀ (i : Nat) (H : Hp) (Ex : List (Addr × HO)) (rs : Roots) (x : V) (H' : Hp) (hi : i < ds.length), Rel K mg H Ex (Tk ++ rs) [] → J.yld i H x H' → Same H H' ∧ Rel K mg H' Ex ((x, .d ds[i]) :: (Tk ++ rs)) []
structure EvI (X : Cx) (W : WX) (pu : Bool) (tg iter : Expr) (m : M (List PyData)) : Prop where
  ex : ∃ wi, PI X tg iter wi ∧ ∀ (σ : L2.St) (H : Hp) (R : It → Hp → Prop) (g : Gs) (T : Roots) (Ex : List (Addr × HO)) (ws : Roots), At X H Ex σ g T ws →
    Wp (m g) (fun ds g' => ∀ J H' Tk, Wk X.K X.mg J Tk ds → (pu = true → g' = g ∧ Same H H') → At X H' Ex σ g' (Tk ++ T) (Vs pu ws) → R J H')
      (fun x g' => ∀ H' cls d, At X H' Ex σ g' T [] → ExAt X.mg Ex cls d H' x → W cls d σ H') → wi σ H R
section
variable {X : Cx} {W : WX} {pu pv pw : Bool} {H H' : Hp} {Ex : List (Addr × HO)} {σ σ' : L2.St} {g : Gs} {T T' ws ws' : Roots} {e a b o : Expr} {es : List Expr} {m : M O} {pos p apos : Pos} {k j np : Nat} {x : Str}
theorem At.relT {Tk : Roots} (a : At X H Ex σ g (Tk ++ T) ws) : Rel X.K X.mg H Ex (Tk ++ (roots σ g ++ T)) ws := a.tops
theorem At.dropTs {Tk : Roots} (a : At X H Ex σ g (Tk ++ T) ws) : At X H Ex σ g T ws := ⟨a.fit, (a.tops).dropL⟩
def forM (set : O → M Unit) (body : M Fl) : List PyData → M Fl
  | [] => M.ret .next
  | x :: r => M.bd (set (.d x)) fun _ => M.bd body fun fl => match fl with
    | .next => forM set body r
    | .cnt => forM set body r
    | .brk => M.ret .next
    | .ret o => M.ret (.ret o)
theorem es_for {tg iter : Expr} {body : List Stmt} {mi : M (List PyData)} {set : O → M Unit} {mb : M Fl} (c : Cc X W k) (hi : EvI X W pu tg iter mi) (hg : EvG X W np tg set) (hb : EvSs X W np body mb)
    (hs : ∀ x, foldedSetIterable iter X.env x = pure x := by intro _; rfl) : EvS X W np (.For tg iter body [] pos) (M.bd mi (forM set mb)) := by
  obtain ⟨wi, i1, i2⟩ := hi.ex
  obtain ⟨tg', t1, t2⟩ := hg.ex
  obtain ⟨tb, b1, b2⟩ := hb.ex
  refine ⟨_, ps_for c.own c.calm i1 t1 b1 hs, fun σ H D g T Ex a w => ?_⟩
  refine i2 σ H _ g T Ex [] a (w.bd.imp (fun ds g' kk J H' Tk wk s a' => ?_) fun x g' kk H' cls d a' e => kk σ H' cls d .refl a' e)
  refine ⟨fun i n σ1 H1 => n = ds.length - i ∧ i ≤ ds.length ∧ Pin np σ σ1 ∧ ∃ g1, At X H1 Ex σ1 g1 (Tk ++ T) [] ∧ Wp (forM set mb (ds.drop i) g1) (SPost X np σ T Ex D) (XPost X W np σ T Ex),
    ⟨ds.length, rfl, Nat.zero_le _, .refl, g', a'.noV, kk⟩, ?_⟩
  rintro i n σ1 H1 ⟨rfl, hle, pin, g1, a1, w1⟩
  by_cases hlt : i < ds.length
  · refine .inr ⟨wk.go i H1 Ex _ hlt a1.relT, fun σ2 H2 => ∃ m', m' < ds.length - i ∧ (m' = ds.length - (i + 1) ∧ i + 1 ≤ ds.length ∧ Pin np σ σ2 ∧ ∃ g2, At X H2 Ex σ2 g2 (Tk ++ T) [] ∧ Wp (forM set mb (ds.drop (i + 1)) g2) (SPost X np σ T Ex D) (XPost X W np σ T Ex)), fun _ _ h => h, fun x H2 y => ?_⟩
    obtain ⟨s2, r2⟩ := wk.yld i H1 Ex _ x H2 hlt a1.relT y
    rw [List.drop_eq_getElem_cons hlt] at w1
    refine t2 σ1 H2 _ g1 (Tk ++ T) Ex x _ (.ofTop a1.fit (r2.perm (.cons _ (List.perm_append_comm_assoc _ _ _)))) ((Wp.bd w1).imp (fun _ g2 kk σ2 H3 p2 a2 => ?_) fun x g2 kk σ' H' cls d q a2 e => kk σ' H' cls d (pin.trans q) a2.dropTs e)
    refine b2 σ2 H3 _ g2 (Tk ++ T) Ex a2 ((Wp.bd kk).imp (fun fl g3 kk => ?_) fun x g2 kk σ' H' cls d q a2 e => kk σ' H' cls d ((pin.trans p2).trans q) a2.dropTs e)
    cases fl with
    | next => exact fun σ3 H4 p3 a3 => ⟨_, by omega, rfl, hlt, (pin.trans p2).trans p3, g3, a3, kk⟩
    | cnt => exact fun σ3 H4 p3 a3 => ⟨_, by omega, rfl, hlt, (pin.trans p2).trans p3, g3, a3, kk⟩
    | brk => exact fun σ3 H4 p3 a3 => kk σ3 H4 ((pin.trans p2).trans p3) a3.dropTs
    | ret o => exact fun v σ3 H4 p3 a3 => kk v σ3 H4 ((pin.trans p2).trans p3) (At.ofTop a3.fit (a3.top.perm (.cons _ (List.perm_append_comm_assoc _ _ _)) |>.perm (List.perm_middle (l₁ := Tk)).symm |>.dropL))
  · have e : i = ds.length := by omega
    subst e
    rw [List.drop_length] at w1
    exact .inl ⟨wk.stop _ H1 Ex _ (Nat.le_refl _) a1.relT, w1 σ1 H1 pin a1.dropTs⟩
def whM (c : M Bool) (body : M Fl) : Nat → M Fl
  | 0 => M.no
  | n + 1 => M.bd c fun b => if b = true then M.bd body (fun fl => match fl with
    | .next => whM c body n
    | .cnt => whM c body n
    | .brk => M.ret .next
    | .ret o => M.ret (.ret o)) else M.ret .next
theorem es_while {t : Expr} {body : List Stmt} {mc : M Bool} {mb : M Fl} (n : Nat) (c : Cc X W k) (hc : EvT X W pu t mc) (hb : EvSs X W np body mb) : EvS X W np (.While t body [] pos) (whM mc mb n) := by
  obtain ⟨tc, c1, c2⟩ := hc.ex
  obtain ⟨tb, b1, b2⟩ := hb.ex
  refine ⟨_, ps_while c.own c1 b1, fun σ H D g T Ex a w => ?_⟩
  refine ⟨fun m σ1 H1 => Pin np σ σ1 ∧ ∃ g1, At X H1 Ex σ1 g1 T [] ∧ Wp (whM mc mb m g1) (SPost X np σ T Ex D) (XPost X W np σ T Ex), ⟨n, .refl, g, a, w⟩, ?_⟩
  rintro m σ1 H1 ⟨pin, g1, a1, w1⟩
  cases m with
  | zero => exact w1.elim
  | succ m =>
    refine c2 σ1 H1 _ g1 T Ex [] a1 ((Wp.bd w1).imp (fun b g2 kk H2 s2 a2 => ?_) fun x g2 kk H' cls d a2 e => kk σ1 H' cls d pin a2 e)
    cases b with
    | false => exact iteF (kk σ1 H2 pin a2.noV)
    | true =>
      refine iteT ⟨fun σ2 H3 => ∃ m', m' < m + 1 ∧ (Pin np σ σ2 ∧ ∃ g3, At X H3 Ex σ2 g3 T [] ∧ Wp (whM mc mb m' g3) (SPost X np σ T Ex D) (XPost X W np σ T Ex)), fun _ _ h => h, ?_⟩
      refine b2 σ1 H2 _ g2 T Ex a2.noV ((Wp.bd kk).imp (fun fl g3 kk => ?_) fun x g2 kk => kk.pin pin)
      cases fl with
      | next => exact fun σ3 H4 p3 a3 => ⟨m, Nat.lt_succ_self _, pin.trans p3, g3, a3, kk⟩
      | cnt => exact fun σ3 H4 p3 a3 => ⟨m, Nat.lt_succ_self _, pin.trans p3, g3, a3, kk⟩
      | brk => exact fun σ3 H4 p3 a3 => kk σ3 H4 (pin.trans p3) a3
      | ret o => exact fun v σ3 H4 p3 a3 => kk v σ3 H4 (pin.trans p3) a3
def iAny (K : PySem.W.Frag) (te : TE) : TI := fun σ H R => te σ H fun x H1 => (∃ a, x = .ref a ∧ (∃ xs, SqL K H1 a xs) ∧ R (Itl K a) H1) ∨ (∃ a, x = .ref a ∧ (∃ xs, SqT K H1 a xs) ∧ R (Itt K a) H1) ∨ ∃ z, x = .str z ∧ R (Its z) H1
theorem pi_any {tg : Expr} {te : TE} (he : PE X e te) : PI X tg e (iAny X.K te) := by
  refine ⟨fun pins s σ H R I h => ?_⟩
  refine thn (he.run pins s σ H _ I h) fun v s1 ⟨x, H1, I1, r1, q1⟩ => ?_
  rcases q1 with ⟨a, ex, ⟨xs, hq⟩, q⟩ | ⟨a, ex, ⟨xs, hq⟩, q⟩ | ⟨z, ex, q⟩
  · subst ex
    cases r1
    obtain ⟨its, rv, p, hz⟩ := I1.list hq
    refine wpAny_pyIter_list p.isList ?_
    refine ⟨s1.heap.objs.size, [s1.heap.objs.size], _, _, H1, rfl, I1.kept (t' := s1.toks) fun b o e => Heap.get?_push_of_some _ e, turn_list a _, ⟨_, Heap.get?_push_size _ rfl, rfl, rfl⟩, fun b hb => ?_, q⟩
    have e : b = s1.heap.objs.size := by simpa using hb
    subst e
    exact I1.fpOk (Nat.le_refl _) (I1.hok.fresh (Nat.le_refl _))
  · subst ex
    cases r1
    obtain ⟨its, rv, p, hz⟩ := I1.tuple hq
    refine wpAny_pyIter_tuple (show s1.heap.IsTuple a its.toArray from p) ?_
    refine ⟨s1.heap.objs.size, [s1.heap.objs.size], _, _, H1, rfl, I1.kept (t' := s1.toks) fun b o e => Heap.get?_push_of_some _ e, turn_tuple a _, ⟨_, Heap.get?_push_size _ rfl, rfl, rfl⟩, fun b hb => ?_, q⟩
    have e : b = s1.heap.objs.size := by simpa using hb
    subst e
    exact I1.fpOk (Nat.le_refl _) (I1.hok.fresh (Nat.le_refl _))
  · subst ex
    obtain ⟨t, rfl⟩ := r1
    cases ha : z.cps.all (· < 128)
    · exact wpAny_pyIter_wide ha (pi_one (tk := s1.toks) I1 _ (turn_str _ z t "str_iterator" (.inr rfl)) ⟨_, Heap.get?_push_size _ rfl, rfl, rfl⟩ q)
    · exact wpAny_pyIter_ascii ha (pi_one (tk := s1.toks) I1 _ (turn_str _ z t "str_ascii_iterator" (.inl rfl)) ⟨_, Heap.get?_push_size _ rfl, rfl, rfl⟩ q)
def signs (z : Str) : List PyData := z.cps.toList.map fun c => .str ⟨#[c]⟩
/-- the items of a value that is walked -/
def itemsM (o : O) : M (List PyData) := fun g => match o with
  | .d (.list ds) => .ok ds g
  | .d (.tuple ds) => .ok ds g
  | .d (.str z) => .ok (signs z) g
  | .gL ds => .ok ds g
  | .gT ds => .ok ds g
  | .lst os => match allD os with
    | some ds => .ok ds g
    | none => .bad
  | _ => .bad
theorem dpGet {K : PySem.W.Frag} {Hf : Hp} : ∀ {vs : List V} {ds : List PyData} {i : Nat} {v : V} (h : DpAll K Hf vs ds) (hv : vs[i]? = some v) (hi : i < ds.length), Dp K Hf v ds[i]
  | _, _, 0, _, .cons a t, hv, hi => by
    simp only [List.getElem?_cons_zero, Option.some.injEq] at hv
    subst hv
    exact a
  | _, _, i + 1, _, .cons a t, hv, hi => by
    simp only [List.getElem?_cons_succ] at hv
    exact dpGet (i := i) t hv (by simpa using hi)
/-- the seat of data that is held: one address, one look at any heap -/
theorem Rel.headDp {K : PySem.W.Frag} {mg : Str → Option Value} {rs : Roots} {v : V} {x : PyData} (r : Rel K mg H Ex ((v, .d x) :: rs) ws) : ∃ Hf, Same Hf H ∧ Dp K Hf v x ∧ ∀ (u : V) (y : PyData), Dp K Hf u y → Rel K mg H Ex ((u, .d y) :: (v, .d x) :: rs) ws := by
  obtain ⟨Hf, as, s, he, ho, nd, hn, hw⟩ := r.ex
  cases ho with
  | cons h t =>
    cases h with
    | d h => exact ⟨Hf.h, s.same, h, fun u y hu => ⟨Hf, _, s, he, .cons (as := []) (.d hu) (.cons (.d h) t), nd, hn, hw⟩⟩
theorem wkLst {K : PySem.W.Frag} {mg : Str → Option Value} {a : Addr} {ds : List PyData} : Wk K mg (Itl K a) [(.ref a, .d (.list ds))] ds where
  go := fun i H Ex rs hi r => by
    obtain ⟨Hf, s, h, _⟩ := r.headDp
    cases h with
    | lst h1 h2 =>
      rename_i vs
      have hv : i < vs.length := by rw [dpLen h2]; exact hi
      exact ⟨vs, vs[i], SqL.of (s _ _ h1), by simp [hv]⟩
  stop := fun i H Ex rs hi r => by
    obtain ⟨Hf, s, h, _⟩ := r.headDp
    cases h with
    | lst h1 h2 => exact ⟨_, SqL.of (s _ _ h1), by rw [dpLen h2]; exact hi⟩
  yld := fun i H Ex rs x H' hi r y => by
    obtain ⟨Hf, s, h, k⟩ := r.headDp
    obtain ⟨e, y⟩ := y
    subst e
    cases h with
    | lst h1 h2 => exact ⟨Same.refl _, k _ _ (dpGet h2 (y _ (SqL.of (s _ _ h1))) hi)⟩
theorem wkTup {K : PySem.W.Frag} {mg : Str → Option Value} {a : Addr} {ds : List PyData} : Wk K mg (Itt K a) [(.ref a, .d (.tuple ds))] ds where
  go := fun i H Ex rs hi r => by
    obtain ⟨Hf, s, h, _⟩ := r.headDp
    obtain ⟨a, vs, e, h1, h2⟩ := dpTup h
    cases e
    have hv : i < vs.length := by rw [dpLen h2]; exact hi
    exact ⟨vs, vs[i], sameT s h1, by simp [hv]⟩
  stop := fun i H Ex rs hi r => by
    obtain ⟨Hf, s, h, _⟩ := r.headDp
    obtain ⟨a, vs, e, h1, h2⟩ := dpTup h
    cases e
    exact ⟨_, sameT s h1, by rw [dpLen h2]; exact hi⟩
  yld := fun i H Ex rs x H' hi r y => by
    obtain ⟨Hf, s, h, k⟩ := r.headDp
    obtain ⟨e, y⟩ := y
    subst e
    obtain ⟨a, vs, e, h1, h2⟩ := dpTup h
    cases e
    exact ⟨Same.refl _, k _ _ (dpGet h2 (y _ (sameT s h1)) hi)⟩
theorem Rel.headG {K : PySem.W.Frag} {mg : Str → Option Value} {rs : Roots} {v : V} {o : O} (r : Rel K mg H Ex ((v, o) :: rs) ws) : ∃ (Hf : Fz) (as : List Addr), Hf.on K H ∧ Ow K mg Hf H v o as ∧ ∀ (u : V) (y : PyData), Dp K Hf.h u y → Rel K mg H Ex ((u, .d y) :: (v, o) :: rs) ws := by
  obtain ⟨Hf, as, s, he, ho, nd, hn, hw⟩ := r.ex
  cases ho with
  | cons h t => exact ⟨Hf, _, s, h, fun u y hu => ⟨Hf, _, s, he, .cons (as := []) (.d hu) (.cons h t), nd, hn, hw⟩⟩
theorem wkGL {K : PySem.W.Frag} {mg : Str → Option Value} {a : Addr} {ds : List PyData} : Wk K mg (Itl K a) [(.ref a, .gL ds)] ds where
  go := fun i H Ex rs hi r => by
    obtain ⟨Hf, as, s, h, _⟩ := r.headG
    cases h with
    | gL h1 h2 =>
      rename_i vs
      have hv : i < vs.length := by rw [dpLen h2]; exact hi
      exact ⟨vs, vs[i], s.same.seq h1, by simp [hv]⟩
  stop := fun i H Ex rs hi r => by
    obtain ⟨Hf, as, s, h, _⟩ := r.headG
    cases h with
    | gL h1 h2 => exact ⟨_, s.same.seq h1, by rw [dpLen h2]; exact hi⟩
  yld := fun i H Ex rs x H' hi r y => by
    obtain ⟨Hf, as, s, h, k⟩ := r.headG
    obtain ⟨e, y⟩ := y
    subst e
    cases h with
    | gL h1 h2 => exact ⟨Same.refl _, k _ _ (dpGet h2 (y _ (s.same.seq h1)) hi)⟩
theorem wkGT {K : PySem.W.Frag} {mg : Str → Option Value} {a : Addr} {ds : List PyData} : Wk K mg (Itt K a) [(.ref a, .gT ds)] ds where
  go := fun i H Ex rs hi r => by
    obtain ⟨Hf, as, s, h, _⟩ := r.headG
    cases h with
    | gT h1 h2 =>
      rename_i vs
      have hv : i < vs.length := by rw [dpLen h2]; exact hi
      exact ⟨vs, vs[i], sameT s.same h1, by simp [hv]⟩
  stop := fun i H Ex rs hi r => by
    obtain ⟨Hf, as, s, h, _⟩ := r.headG
    cases h with
    | gT h1 h2 => exact ⟨_, sameT s.same h1, by rw [dpLen h2]; exact hi⟩
  yld := fun i H Ex rs x H' hi r y => by
    obtain ⟨Hf, as, s, h, k⟩ := r.headG
    obtain ⟨e, y⟩ := y
    subst e
    cases h with
    | gT h1 h2 => exact ⟨Same.refl _, k _ _ (dpGet h2 (y _ (sameT s.same h1)) hi)⟩
theorem wkStr {K : PySem.W.Frag} {mg : Str → Option Value} {z : Str} {Tk : Roots} : Wk K mg (Its z) Tk (signs z) where
  go := fun i H Ex rs hi r => by simpa [signs, Its] using hi
  stop := fun i H Ex rs hi r => by simpa [signs, Its] using hi
  yld := fun i H Ex rs x H' hi r y => by
    obtain ⟨e, c, hc, ex⟩ := y
    subst e; subst ex
    refine ⟨Same.refl _, r.data fun Hf => ?_⟩
    have h1 : (signs z)[i]? = some (.str ⟨#[c]⟩) := by
      unfold signs
      rw [List.getElem?_map, Array.getElem?_toList, hc]
      rfl
    have e : (signs z)[i] = .str ⟨#[c]⟩ := Option.some.inj ((List.getElem?_eq_getElem hi).symm.trans h1)
    rw [e]
    exact .str _
theorem ei_seq {tg : Expr} (h : Ev X W pu e m) : EvI X W pu tg e (M.bd m itemsM) := by
  obtain ⟨t, h1, h2⟩ := h.ex
  refine ⟨_, pi_any h1, fun σ H R g T Ex ws a w => h2 σ H _ g T Ex ws a (w.bd.imp (fun o g' kk v H' s a' => ?_) fun _ _ kk => kk)⟩
  unfold itemsM at kk
  split at kk
  · rename_i ds
    obtain ⟨Hf, sm, h, _⟩ := a'.top.headDp
    cases h with
    | lst q1 q2 => exact .inl ⟨_, rfl, ⟨_, SqL.of (sm _ _ q1)⟩, kk _ H' [(_, .d (.list ds))] wkLst s a'⟩
  · rename_i ds
    obtain ⟨Hf, sm, h, _⟩ := a'.top.headDp
    obtain ⟨a, vs, e, q1, q2⟩ := dpTup h
    cases e
    exact .inr (.inl ⟨_, rfl, ⟨_, sameT sm q1⟩, kk _ H' [(_, .d (.tuple ds))] wkTup s a'⟩)
  · rename_i z
    obtain ⟨Hf, sm, h, _⟩ := a'.top.headDp
    cases h with
    | str => exact .inr (.inr ⟨z, rfl, kk _ H' [] wkStr s a'.drop⟩)
  · rename_i ds
    obtain ⟨Hf, as, sm, h, _⟩ := a'.top.headG
    cases h with
    | gL q1 q2 => exact .inl ⟨_, rfl, ⟨_, sm.same.seq q1⟩, kk _ H' [(_, .gL ds)] wkGL s a'⟩
  · rename_i ds
    obtain ⟨Hf, as, sm, h, _⟩ := a'.top.headG
    cases h with
    | gT q1 q2 => exact .inr (.inl ⟨_, rfl, ⟨_, sameT sm.same q1⟩, kk _ H' [(_, .gT ds)] wkGT s a'⟩)
  · rename_i os
    cases q : allD os with
    | none => rw [q] at kk; exact kk.elim
    | some ds =>
      rw [q] at kk
      have hz : (O.lst os).fz = some (.list ds) := by simp only [O.fz, allDFz q]
      have r := a'.top.fz hz
      obtain ⟨Hf, sm, h, _⟩ := r.headDp
      cases h with
      | lst q1 q2 => exact .inl ⟨_, rfl, ⟨_, SqL.of (sm _ _ q1)⟩, kk _ H' [(_, .d (.list ds))] wkLst s (.ofTop a'.fit r)⟩
  · exact kk.elim
def intsF (lo : Int) (n : Nat) : List PyData := (List.range n).map fun i => .int (lo + (i : Nat))
theorem wkRng {K : PySem.W.Frag} {mg : Str → Option Value} {lo : Int} {n : Nat} {Tk : Roots} : Wk K mg (Itr lo n) Tk (intsF lo n) where
  go := fun i H Ex rs hi r => by simpa [intsF, Itr] using hi
  stop := fun i H Ex rs hi r => by simpa [intsF, Itr] using hi
  yld := fun i H Ex rs x H' hi r y => by
    obtain ⟨e, ex⟩ := y
    subst e; subst ex
    refine ⟨Same.refl _, r.data fun Hf => ?_⟩
    have e : (intsF lo n)[i] = .int (lo + (i : Nat)) := by simp [intsF]
    rw [e]
    exact .int _
def inRng (i : Int) : Bool := decide (-(4611686018427387904) ≤ i) && decide (i < 4611686018427387904)
def rng1M (os : List O) : M (List PyData) := fun g => match os with
  | [.d (.int i)] => if inRng i = true then .ok (intsF 0 i.toNat) g else .bad
  | _ => .bad
def rng2M (os : List O) : M (List PyData) := fun g => match os with
  | [.d (.int i), .d (.int j)] => if inRng i = true ∧ inRng j = true then .ok (intsF i (j - i).toNat) g else .bad
  | _ => .bad
theorem inRng_ok {i : Int} (h : inRng i = true) : -(2 ^ 62) ≤ i ∧ i < 2 ^ 62 := by
  unfold inRng at h
  have := Bool.and_eq_true_iff.mp h
  exact ⟨by have := of_decide_eq_true this.1; omega, by have := of_decide_eq_true this.2; omega⟩
theorem Rel.isI {K : PySem.W.Frag} {mg : Str → Option Value} {rs : Roots} {v : V} {i : Int} (r : Rel K mg H Ex ((v, .d (.int i)) :: rs) ws) : v = .int i := by
  obtain ⟨Hf, s, h, _⟩ := r.headDp
  cases h; rfl
theorem ei_range1 {tg : Expr} {ms : M (List O)} (h : EvEs X W pu [a] ms) (hg : Gl X "range") (hm : X.mg "range" = none) (hs : starEach [a] X.env = [(false, eval a X.env)] := by rfl) : EvI X W pu tg (.Call (.Name "range" p) [a] [] pos) (M.bd ms rng1M) := by
  obtain ⟨ts, g1, g2⟩ := h.ex
  refine ⟨_, pi_range1 hg hm g1.pa hs, fun σ H R g T Ex ws a w => g2 σ H _ g T Ex ws a (w.bd.imp (fun os g' kk vs H' hl s a' => ?_) fun _ _ kk => kk)⟩
  unfold rng1M at kk
  split at kk
  · rename_i i
    split at kk
    · rename_i hi
      match vs, hl with
      | [v], _ =>
        have r : Rel X.K X.mg H' Ex ((v, .d (.int i)) :: (roots σ g' ++ T)) (Vs pu ws) := a'.top
        obtain rfl := r.isI
        obtain ⟨h1, h2⟩ := inRng_ok hi
        exact ⟨i, rfl, h1, h2, kk _ H' [] wkRng s (At.drop (p := (.int i, .d (.int i))) a')⟩
    · exact kk.elim
  · exact kk.elim
end
end Z
namespace Z
open PySem PySem.Spec L2
def wipeG (g : Gs) : List Nat → Gs
  | [] => g
  | v :: vs => (wipeG g vs).set v none
def restG (g1 : Gs) : List Nat → Gs → Gs
  | [], g3 => g3
  | v :: vs, g3 => restG g1 vs (g3.set v (((wipeG g1 vs)[v]?).getD none))
def hidR (σ : L2.St) (g : Gs) : List Nat → Roots
  | [] => []
  | v :: vs => (match (wipe σ vs)[v]?, (wipeG g vs)[v]? with
    | some (some x), some (some o) => [(x, o)]
    | _, _ => []) ++ hidR σ g vs
section
variable {K : PySem.W.Frag} {mg : Str → Option Value} {H : Hp} {Ex : List (Addr × HO)} {T ws : Roots} {σ : L2.St} {g g1 : Gs}
theorem wipeFit (f : Fit σ g) : ∀ vs, Fit (wipe σ vs) (wipeG g vs)
  | [] => f
  | v :: vs => by
    have ih := wipeFit f vs
    refine ⟨by unfold wipe wipeG; rw [List.length_set, List.length_set]; exact ih.len, fun i o h => ?_⟩
    unfold wipe
    unfold wipeG at h
    by_cases e : v = i
    · subst e
      rw [List.getElem?_set] at h
      simp at h
    · rw [List.getElem?_set_ne e] at h
      rw [List.getElem?_set_ne e]
      exact ih.at_ i o h
theorem wipeRoots (f : Fit σ g) : ∀ vs, (roots σ g).Perm (roots (wipe σ vs) (wipeG g vs) ++ hidR σ g vs)
  | [] => by simp [wipe, wipeG, hidR]
  | v :: vs => by
    have ih := wipeRoots f vs
    have fv := wipeFit f vs
    show (roots σ g).Perm (roots ((wipe σ vs).set v none) ((wipeG g vs).set v none) ++ _)
    rw [rootsNone]
    unfold hidR
    cases q : (wipeG g vs)[v]? with
    | none =>
      rw [setNone (by intro o; rw [q]; simp)]
      cases (wipe σ vs)[v]? with
      | none => exact ih
      | some y => cases y <;> exact ih
    | some y =>
      cases y with
      | none =>
        rw [setNone (by intro o; rw [q]; simp)]
        cases (wipe σ vs)[v]? with
        | none => exact ih
        | some y => cases y <;> exact ih
      | some o =>
        obtain ⟨x, hx⟩ := fv.at_ v o q
        rw [hx]
        exact ih.trans (((rootsGet hx q).append_right _).trans List.perm_middle.symm)
/-- back from a block: the hidden slots stand again -/
theorem restRel (f : Fit σ g1) : ∀ (vs : List Nat) {g3 : Gs}, Fit (wipe σ vs) g3 → Rel K mg H Ex (roots (wipe σ vs) g3 ++ (hidR σ g1 vs ++ T)) ws → Fit σ (restG g1 vs g3) ∧ Rel K mg H Ex (roots σ (restG g1 vs g3) ++ T) ws
  | [], g3, f3, r => ⟨f3, r⟩
  | v :: vs, g3, f3, r => by
    unfold restG
    have f3' : Fit ((wipe σ vs).set v none) g3 := f3
    have hlen : (wipe σ vs).length = g3.length := by have := f3'.len; rwa [List.length_set] at this
    have fv := wipeFit f vs
    have e3 : g3.set v none = g3 := setNone (by
      intro o q
      obtain ⟨x, hx⟩ := f3'.at_ v o q
      rw [List.getElem?_set] at hx
      simp at hx)
    have r0 : Rel K mg H Ex (roots (wipe σ vs) (g3.set v none) ++ (hidR σ g1 (v :: vs) ++ T)) ws := by
      have : roots ((wipe σ vs).set v none) (g3.set v none) = roots (wipe σ vs) (g3.set v none) := rootsNone
      rw [← this, e3]
      exact r
    unfold hidR at r0
    cases q : (wipeG g1 vs)[v]? with
    | none =>
      refine restRel f vs ⟨?_, ?_⟩ ?_
      · simpa using hlen
      · intro i o h
        simp only [Option.getD_none] at h
        rw [e3] at h
        obtain ⟨x, hx⟩ := f3'.at_ i o h
        by_cases e : v = i
        · subst e; rw [List.getElem?_set] at hx; simp at hx
        · rw [List.getElem?_set_ne e] at hx; exact ⟨x, hx⟩
      · rw [q] at r0
        simp only [Option.getD_none]
        cases z : (wipe σ vs)[v]? with
        | none => rw [z] at r0; exact r0
        | some y => rw [z] at r0; cases y <;> exact r0
    | some y =>
      cases y with
      | none =>
        refine restRel f vs ⟨?_, ?_⟩ ?_
        · simpa using hlen
        · intro i o h
          simp only [Option.getD_some] at h
          rw [e3] at h
          obtain ⟨x, hx⟩ := f3'.at_ i o h
          by_cases e : v = i
          · subst e; rw [List.getElem?_set] at hx; simp at hx
          · rw [List.getElem?_set_ne e] at hx; exact ⟨x, hx⟩
        · rw [q] at r0
          simp only [Option.getD_some]
          cases z : (wipe σ vs)[v]? with
          | none => rw [z] at r0; exact r0
          | some y => rw [z] at r0; cases y <;> exact r0
      | some o =>
        obtain ⟨x, hx⟩ := fv.at_ v o q
        rw [q, hx] at r0
        simp only [Option.getD_some]
        have fw : Fit (wipe σ vs) (g3.set v none) := ⟨by simpa using hlen, fun i o h => by
          rw [e3] at h
          obtain ⟨x, hx⟩ := f3'.at_ i o h
          by_cases e : v = i
          · subst e; rw [List.getElem?_set] at hx; simp at hx
          · rw [List.getElem?_set_ne e] at hx; exact ⟨x, hx⟩⟩
        have r1 : Rel K mg H Ex ((x, o) :: (roots (wipe σ vs) (g3.set v none) ++ (hidR σ g1 vs ++ T))) ws := r0.perm List.perm_middle
        have hv := (List.getElem?_eq_some_iff.mp hx).1
        refine restRel f vs ⟨by rw [List.length_set]; exact hlen, fun i o' h => ?_⟩ (r1.perm ?_)
        · by_cases e : v = i
          · subst e; exact ⟨x, hx⟩
          · rw [List.getElem?_set_ne e] at h
            have h2 : (g3.set v none)[i]? = some (some o') := by rw [List.getElem?_set_ne e]; exact h
            exact fw.at_ i o' h2
        · have f0 : Fit (wipe σ vs) g3 := by rw [← e3]; exact fw
          exact (rootsPut f0 hx).symm.append_right _
end
/-- the turns: data in, what is made so far -/
def lcM (vs : List Nat) (set : O → M Unit) (tst : M Bool) (elt : M O) : List PyData → List O → M (List O)
  | [], acc => M.ret acc
  | x :: r, acc => M.bd (set (.d x)) fun _ => M.bd tst fun b => if b = true then M.bd elt (fun o g => lcM vs set tst elt r (acc ++ [o]) (wipeG g vs)) else fun g => lcM vs set tst elt r acc (wipeG g vs)
def Res.noXR {α : Type} : Res α → Res α
  | .ok a e => .ok a e
  | .all f => .all fun v => (f v).noXR
  | _ => .bad
def Res.noX {α : Type} (r : Res α) : Res α := match r with
  | .ok a e => .ok a e
  | .all f => .all fun v => (f v).noXR
  | _ => .bad
theorem Res.noXR_eq {α : Type} : ∀ {r : Res α}, r.noXR = r.noX
  | .ok _ _ => rfl
  | .ex _ _ => rfl
  | .bad => rfl
  | .all _ => rfl
theorem Res.wp_noX {α : Type} {A : α → Gs → Prop} {B : Exn → Gs → Prop} : ∀ {r : Res α}, Wp r.noX A B ↔ Wp r A (fun _ _ => False)
  | .ok a e => Iff.rfl
  | .ex x e => Iff.rfl
  | .bad => Iff.rfl
  | .all f => wp_all.trans ((forall_congr' fun v => by rw [Res.noXR_eq]; exact Res.wp_noX (r := f v)).trans wp_all.symm)
def compM (vs : List Nat) (mi : M (List PyData)) (set : O → M Unit) (tst : M Bool) (elt : M O) : M O := M.bd mi fun ds g1 =>
  if lenOk ds.length = true then (lcM vs set tst elt ds [] (wipeG g1 vs)).noX.bd fun os g3 => .ok (.lst os) (restG g1 vs g3)
  else .bad
def yesM : M Bool := M.ret true
abbrev WX0 : WX := fun _ _ _ _ => False
structure EvC (X : Cx) (W : WX) (pu : Bool) (cs : List Expr) (m : M Bool) : Prop where
  ex : ∃ t, PTs X cs t ∧ ∀ (σ : L2.St) (H : Hp) (Q : Bool → Hp → Prop) (g : Gs) (T : Roots) (Ex : List (Addr × HO)) (ws : Roots), At X H Ex σ g T ws →
    Wp (m g) (fun b g' => ∀ H', (pu = true → g' = g ∧ Same H H') → At X H' Ex σ g' T (Vs pu ws) → Q b H')
      (fun x g' => ∀ H' cls d, At X H' Ex σ g' T [] → ExAt X.mg Ex cls d H' x → W cls d σ H') → t σ H Q
/-- a target of a comprehension: it leaves the heap, and slots but its own -/
structure EvB (X : Cx) (vs : List Nat) (tg : Expr) (f : O → M Unit) : Prop where
  ex : ∃ t, PG X tg t ∧ ∀ (σ : L2.St) (H : Hp) (Q : L2.St → Hp → Prop) (g : Gs) (T : Roots) (Ex : List (Addr × HO)) (ws : Roots) (v : V) (o : O) (B : Exn → Gs → Prop), At X H Ex σ g ((v, o) :: T) ws →
    Wp (f o g) (fun _ g' => ∀ σ', wipe σ' vs = wipe σ vs → wipeG g' vs = wipeG g vs → At X H Ex σ' g' T ws → Q σ' H) B → t v σ H Q
section
variable {X : Cx} {W : WX} {pu pv pw : Bool} {H H' : Hp} {Ex : List (Addr × HO)} {σ σ' : L2.St} {g : Gs} {T T' ws ws' : Roots} {e a b o : Expr} {es : List Expr} {m : M O} {pos p apos : Pos} {k j np : Nat} {x : Str}
theorem ec_yes : EvC X W true [] yesM := ⟨_, pts_nil, fun σ H Q g T Ex ws a w => w H (fun _ => ⟨rfl, Same.refl _⟩) a⟩
theorem wipeSetSt {σ : L2.St} {i : Nat} {x : Option V} : ∀ {vs : List Nat}, i ∈ vs → wipe (σ.set i x) vs = wipe σ vs
  | v :: vs, h => by
    unfold wipe
    by_cases hm : i ∈ vs
    · rw [wipeSetSt hm]
    · rcases List.mem_cons.mp h with e | e
      · subst e
        have : ∀ vs : List Nat, i ∉ vs → wipe (σ.set i x) vs = (wipe σ vs).set i x := by
          intro vs
          induction vs with
          | nil => intro _; rfl
          | cons v vs ih =>
            intro hv
            unfold wipe
            rw [ih (fun z => hv (List.mem_cons_of_mem _ z)), List.set_comm _ _ (fun z => hv (by rw [z]; exact List.mem_cons_self))]
        rw [this vs hm, List.set_set]
      · exact absurd e hm
theorem wipeSetG {g : Gs} {i : Nat} {x : Option O} : ∀ {vs : List Nat}, i ∈ vs → wipeG (g.set i x) vs = wipeG g vs
  | v :: vs, h => by
    unfold wipeG
    by_cases hm : i ∈ vs
    · rw [wipeSetG hm]
    · rcases List.mem_cons.mp h with e | e
      · subst e
        have : ∀ vs : List Nat, i ∉ vs → wipeG (g.set i x) vs = (wipeG g vs).set i x := by
          intro vs
          induction vs with
          | nil => intro _; rfl
          | cons v vs ih =>
            intro hv
            unfold wipeG
            rw [ih (fun z => hv (List.mem_cons_of_mem _ z)), List.set_comm _ _ (fun z => hv (by rw [z]; exact List.mem_cons_self))]
        rw [this vs hm, List.set_set]
      · exact absurd e hm
theorem eb_name (i : Nat) {vs : List Nat} {x : Str} (hm : i ∈ vs) (hN : X.N.Nodup) (hi : X.N[i]? = some x) (hx : Loc X.env.scope x) (hf : X.fn x = true ∨ X.env.scope.names.lookup x = some .local := by first | exact .inl rfl | exact .inr rfl | assumption) : EvB X vs (.Name x pos) (setM i) :=
  ⟨_, pg_name hN hi hx hf, fun σ H Q g T Ex ws v o B a w => w _ (wipeSetSt hm) (wipeSetG hm) a.storeAny⟩
structure EvBs (X : Cx) (vs : List Nat) (ts : List Expr) (f : List PyData → M Unit) : Prop where
  ex : ∃ t, PGs X ts t ∧ ∀ (σ : L2.St) (H : Hp) (Q : L2.St → Hp → Prop) (g : Gs) (T : Roots) (Ex : List (Addr × HO)) (ws : Roots) (us : List V) (ds : List PyData) (B : Exn → Gs → Prop), us.length = ds.length → At X H Ex σ g (us.zip (ds.map O.d) ++ T) ws →
    Wp (f ds g) (fun _ g' => ∀ σ', wipe σ' vs = wipe σ vs → wipeG g' vs = wipeG g vs → At X H Ex σ' g' T ws → Q σ' H) B → t us σ H Q
theorem ebs_nil {vs : List Nat} : EvBs X vs [] nilG := ⟨_, pgs_nil, fun σ H Q g T Ex ws us ds B hl a w => by
  cases ds with
  | nil =>
    cases us with
    | nil => exact ⟨rfl, w σ rfl rfl a⟩
    | cons v vs => simp at hl
  | cons x r => exact w.elim⟩
theorem ebs_cons (i : Nat) {vs : List Nat} {x : Str} {f : List PyData → M Unit} (hm : i ∈ vs) (hN : X.N.Nodup) (hi : X.N[i]? = some x) (hx : Loc X.env.scope x) (hs : EvBs X vs es f) (hf : X.fn x = true ∨ X.env.scope.names.lookup x = some .local := by first | exact .inl rfl | exact .inr rfl | assumption)
    (hst : (assignEach (.Name x pos :: es) X.env).map (·.2) = assign (.Name x pos) X.env :: (assignEach es X.env).map (·.2) := by rfl) : EvBs X vs (.Name x pos :: es) (consG i f) := by
  obtain ⟨u, g1, g2⟩ := hs.ex
  refine ⟨_, pgs_cons (pg_name hN hi hx hf) g1 hst, fun σ H Q g T Ex ws us ds B hl a w => ?_⟩
  cases ds with
  | nil => exact w.elim
  | cons y r =>
    cases us with
    | nil => simp at hl
    | cons v us =>
      have w' : Wp (f r (g.set i (some (.d y)))) _ _ := w
      exact ⟨v, us, rfl, g2 _ H _ _ T Ex ws us r B (by simpa using hl) (At.storeAny a) (w'.imp (fun _ g' kk σ' e1 e2 a' => kk σ' (e1.trans (wipeSetSt hm)) (e2.trans (wipeSetG hm)) a') fun _ _ kk => kk)⟩
theorem eb_tup {vs : List Nat} {kk : Nat} {f : List PyData → M Unit} {n : Nat} (hc : X.calm = true) (h : EvBs X vs es f) (hb : ∀ ds g, ds.length ≠ n → f ds g = .bad) (hn : (assignEach es X.env).length = n := by rfl) (hst : (assignEach es X.env).findIdx? (·.1) = none := by rfl) : EvB X vs (.Tuple es kk pos) (tupG f) := by
  obtain ⟨u, g1, g2⟩ := h.ex
  refine ⟨_, pg_tup hc g1 hn hst, fun σ H Q g T Ex ws v o B a w => ?_⟩
  obtain ⟨ds, rfl, w2⟩ := tupG_is w
  replace w := w2
  obtain ⟨ad, us, e1, e2, hl, r⟩ := a.top.isTup
  have hdn : ds.length = n := by
    by_cases z : ds.length = n
    · exact z
    · rw [hb ds g z] at w; exact w.elim
  exact ⟨ad, us, e1, e2, hl.trans hdn, g2 σ H Q g T Ex ws us ds _ hl ⟨a.fit, r.perm (List.perm_append_comm_assoc _ _ _)⟩ w⟩
theorem At.cx {Y Y2 : Cx} (a : At Y H Ex σ g T ws) (h1 : Y.K = Y2.K := by rfl) (h2 : Y.mg = Y2.mg := by rfl) : At Y2 H Ex σ g T ws := ⟨a.fit, by rw [← h1, ← h2]; exact a.rel⟩
abbrev BI := Shared × Hp × Addr × List (Str × Addr) × List Addr
abbrev blkAt (X : Cx) (scope : Scope) (i : BI) : Cx := X.blk i.1 i.2.1 scope (compEnvC scope i.2.2.2.1 i.2.2.1 X.env) i.2.2.2.2
theorem Cc.blk (c : Cc X W k) (scope : Scope) (i : BI) : Cc (blkAt X scope i) WX0 k := ⟨takes0, c.hr, c.calm, c.nd, PySem.PassesOwn.never⟩
theorem wipe2 {σ : L2.St} {vs' : List Nat} : ∀ {vs : List Nat}, (∀ v ∈ vs, v ∈ vs') → wipe (wipe σ vs) vs' = wipe σ vs'
  | [], _ => rfl
  | v :: vs, h => by
    show wipe ((wipe σ vs).set v none) vs' = _
    rw [wipeSetSt (h v List.mem_cons_self), wipe2 fun u m => h u (List.mem_cons_of_mem _ m)]
theorem wipeRel {K : PySem.W.Frag} {mg : Str → Option Value} {R : Roots} {vs : List Nat} (f : Fit σ g) (r : Rel K mg H Ex (roots σ g ++ R) ws) : Rel K mg H Ex (roots (wipe σ vs) (wipeG g vs) ++ R) ws := by
  have r1 := r.perm ((wipeRoots f vs).append_right R)
  rw [List.append_assoc] at r1
  have r2 := r1.perm (List.perm_append_comm_assoc (roots (wipe σ vs) (wipeG g vs)) (hidR σ g vs) R)
  exact r2.dropL
theorem ev_comp {tg iter elt : Expr} {ifs : List Expr} {scope : Scope} {own : List (Str × Nat)} {mi : M (List PyData)} {set : O → M Unit} {tst : M Bool} {me : M O} (c : Cc X W k) (hi : EvI X W pu tg iter mi) (ok : BlkOk X.N X.env.scope scope own)
    (hg : ∀ i : BI, EvB (blkAt X scope i) (own.map (·.2)) tg set) (ht : ∀ i : BI, EvC (blkAt X scope i) WX0 pv ifs tst) (he : ∀ i : BI, Ev (blkAt X scope i) WX0 pw elt me) (hs : ∀ x, foldedSetIterable iter X.env x = pure x := by intro _; rfl) :
    Ev X W false (.ListComp elt [⟨tg, iter, ifs, 0⟩] scope pos) (compM (own.map (·.2)) mi set tst me) ∧ ∃ wi g tt te, PI X tg iter wi ∧ (∀ (s : Shared) (H : Hp) (C : Addr) (cl : List (Str × Addr)) (fp : List Addr), PG (X.blk s H scope (compEnvC scope cl C X.env) fp) tg g) ∧
      (∀ (s : Shared) (H : Hp) (C : Addr) (cl : List (Str × Addr)) (fp : List Addr), PTs (X.blk s H scope (compEnvC scope cl C X.env) fp) ifs tt) ∧ (∀ (s : Shared) (H : Hp) (C : Addr) (cl : List (Str × Addr)) (fp : List Addr), PE (X.blk s H scope (compEnvC scope cl C X.env) fp) elt te) ∧
      ∀ (σ : L2.St) (H : Hp) (Q : VK) (g0 : Gs) (T : Roots) (Ex : List (Addr × HO)) (ws : Roots), At X H Ex σ g0 T ws →
    Wp (compM (own.map (·.2)) mi set tst me g0) (fun o g' => ∀ v H', (false = true → g' = g0 ∧ Same H H') → At X H' Ex σ g' ((v, o) :: T) (Vs false ws) → Q v H')
      (fun x g' => ∀ H' cls d, At X H' Ex σ g' T [] → ExAt X.mg Ex cls d H' x → W cls d σ H') → tLc wi g tt te (own.map (·.2)) σ H Q := by
  obtain ⟨wi, i1, i2⟩ := hi.ex
  let tgU : TG := fun v σ H Q => ∀ i, (hg i).ex.choose v σ H Q
  let ttU : TT := fun σ H Q => ∀ i, (ht i).ex.choose σ H Q
  let teU : TE := fun σ H Q => ∀ i, (he i).ex.choose σ H Q
  have p1 : ∀ (s : Shared) (H : Hp) (C : Addr) (cl : List (Str × Addr)) (fp : List Addr), PG (X.blk s H scope (compEnvC scope cl C X.env) fp) tg tgU := fun s H C cl fp =>
    ⟨fun pins s' σ H' v u Q I r q => (hg (s, H, C, cl, fp)).ex.choose_spec.1.run pins s' σ H' v u Q I r (q _)⟩
  have p2 : ∀ (s : Shared) (H : Hp) (C : Addr) (cl : List (Str × Addr)) (fp : List Addr), PTs (X.blk s H scope (compEnvC scope cl C X.env) fp) ifs ttU := fun s H C cl fp =>
    ⟨fun pins s' σ H' Q I q => (ht (s, H, C, cl, fp)).ex.choose_spec.1.run pins s' σ H' Q I (q _)⟩
  have p3 : ∀ (s : Shared) (H : Hp) (C : Addr) (cl : List (Str × Addr)) (fp : List Addr), PE (X.blk s H scope (compEnvC scope cl C X.env) fp) elt teU := fun s H C cl fp =>
    ⟨fun pins s' σ H' Q I q => (he (s, H, C, cl, fp)).ex.choose_spec.1.run pins s' σ H' Q I (q _)⟩
  have core : ∀ (σ : L2.St) (H : Hp) (Q : VK) (g0 : Gs) (T : Roots) (Ex : List (Addr × HO)) (ws : Roots), At X H Ex σ g0 T ws →
    Wp (compM (own.map (·.2)) mi set tst me g0) (fun o g' => ∀ v H', (false = true → g' = g0 ∧ Same H H') → At X H' Ex σ g' ((v, o) :: T) (Vs false ws) → Q v H')
      (fun x g' => ∀ H' cls d, At X H' Ex σ g' T [] → ExAt X.mg Ex cls d H' x → W cls d σ H') → tLc wi tgU ttU teU (own.map (·.2)) σ H Q := by
    intro σ H Q g T Ex ws a w
    generalize hvs : own.map (·.2) = vs at w ⊢
    refine i2 σ H _ g T Ex ws a (w.bd.imp (fun ds g1 kk J H1 Tk wk s a1 => ?_) fun _ _ kk => kk)
    intro D hD
    split at kk
    · rename_i hlen
      have hsz := lenOk_le hlen
      · have kk2 := Res.wp_noX.mp (Res.wp_bd.mp kk)
        have w0 : Wp (lcM vs set tst me (ds.drop 0) [] (wipeG g1 vs)) (fun os' g' => Wp (.ok (.lst os') (restG g1 vs g')) (fun o g' => ∀ v H', (false = true → g' = g ∧ Same H H') → At X H' Ex σ g' ((v, o) :: T) (Vs false ws) → Q v H') (fun x g' => ∀ H' cls d, At X H' Ex σ g' T [] → ExAt X.mg Ex cls d H' x → W cls d σ H')) (fun _ _ => False) := by
          rw [List.drop_zero]
          exact kk2
        refine ⟨fun i n H2 => n = ds.length - i ∧ i ≤ ds.length ∧ ∃ (acc : List O) (va : List V) (g2 : Gs), va.length = acc.length ∧ acc.length ≤ i ∧ Fit (wipe σ vs) g2 ∧ Rel X.K X.mg H2 ((D, .lst va) :: Ex) (roots (wipe σ vs) g2 ++ (va.zip acc ++ (Tk ++ (hidR σ g1 vs ++ T)))) [] ∧
          Wp (lcM vs set tst me (ds.drop i) acc g2) (fun os' g' => Wp (.ok (.lst os') (restG g1 vs g')) (fun o g' => ∀ v H', (false = true → g' = g ∧ Same H H') → At X H' Ex σ g' ((v, o) :: T) (Vs false ws) → Q v H') (fun x g' => ∀ H' cls d, At X H' Ex σ g' T [] → ExAt X.mg Ex cls d H' x → W cls d σ H')) (fun _ _ => False), ⟨ds.length, rfl, Nat.zero_le _, [], [], _, rfl, Nat.le_refl _, wipeFit a1.fit vs, ?_, w0⟩, ?_⟩
        · refine (Rel.new (ws := Vs pu ws) (.lst []) ?_ hD).noviews
          have r1 := a1.rel.perm ((wipeRoots a1.fit vs).append_right (Tk ++ T))
          rw [List.append_assoc] at r1
          exact r1.perm ((List.perm_append_comm_assoc _ _ _).append_left _)
        · rintro i n H2 ⟨rfl, hle, acc, va, g2, hva, hacc, f2, r2, w2⟩
          have rTk : Rel X.K X.mg H2 ((D, .lst va) :: Ex) (Tk ++ (roots (wipe σ vs) g2 ++ (va.zip acc ++ (hidR σ g1 vs ++ T)))) [] := by
            refine r2.perm ?_
            refine ((List.perm_append_comm_assoc _ _ _).append_left _).trans ?_
            exact List.perm_append_comm_assoc _ _ _
          by_cases hlt : i < ds.length
          · refine .inr ⟨wk.go i H2 _ _ hlt rTk, fun H' => ∃ m', m' < ds.length - i ∧ (m' = ds.length - (i + 1) ∧ i + 1 ≤ ds.length ∧ ∃ (acc : List O) (va : List V) (g2 : Gs), va.length = acc.length ∧ acc.length ≤ i + 1 ∧ Fit (wipe σ vs) g2 ∧ Rel X.K X.mg H' ((D, .lst va) :: Ex) (roots (wipe σ vs) g2 ++ (va.zip acc ++ (Tk ++ (hidR σ g1 vs ++ T)))) [] ∧
              Wp (lcM vs set tst me (ds.drop (i + 1)) acc g2) (fun os' g' => Wp (.ok (.lst os') (restG g1 vs g')) (fun o g' => ∀ v H', (false = true → g' = g ∧ Same H H') → At X H' Ex σ g' ((v, o) :: T) (Vs false ws) → Q v H') (fun x g' => ∀ H' cls d, At X H' Ex σ g' T [] → ExAt X.mg Ex cls d H' x → W cls d σ H')) (fun _ _ => False)), fun _ h => h, fun x H3 y => ?_⟩
            obtain ⟨s3, r3⟩ := wk.yld i H2 _ _ x H3 hlt rTk y
            rw [List.drop_eq_getElem_cons hlt] at w2
            intro bi
            have a3 : At (blkAt X scope bi) H3 ((D, .lst va) :: Ex) (wipe σ vs) g2 ((x, .d ds[i]) :: (va.zip acc ++ (Tk ++ (hidR σ g1 vs ++ T)))) [] := by
              refine .ofTop f2 (r3.perm (.cons _ ?_))
              refine (List.perm_append_comm_assoc _ _ _).trans ?_
              exact (List.perm_append_comm_assoc _ _ _).append_left _
            refine (hg bi).ex.choose_spec.2 (wipe σ vs) H3 _ g2 _ _ [] x _ (fun _ _ => False) a3 ?_
            have w3 : Wp (M.bd (set (.d ds[i])) _ g2) _ _ := w2
            refine w3.bd.imp (fun _ g4 kk4 σ4 e1 e2 a4 => ⟨?_, ?_⟩) fun _ _ z => z
            · rw [hvs] at e1
              rw [e1, wipe2 fun _ h => h]
            intro bj
            have ew : wipe σ4 vs = wipe σ vs := by
              rw [hvs] at e1
              rw [e1, wipe2 fun _ h => h]
            refine (ht bj).ex.choose_spec.2 σ4 H3 _ g4 _ _ [] a4.cx (kk4.bd.imp (fun b g5 kk5 H5 s5 a5 => ?_) fun _ _ z => z.elim)
            have fin : ∀ {H6 : Hp} {g6 : Gs} {acc' : List O} {va' : List V}, va'.length = acc'.length → acc'.length ≤ i + 1 → Fit σ4 g6 → Rel X.K X.mg H6 ((D, .lst va') :: Ex) (roots σ4 g6 ++ (va'.zip acc' ++ (Tk ++ (hidR σ g1 vs ++ T)))) [] →
                Wp (lcM vs set tst me (ds.drop (i + 1)) acc' (wipeG g6 vs)) (fun os' g' => Wp (.ok (.lst os') (restG g1 vs g')) (fun o g' => ∀ v H', (false = true → g' = g ∧ Same H H') → At X H' Ex σ g' ((v, o) :: T) (Vs false ws) → Q v H') (fun x g' => ∀ H' cls d, At X H' Ex σ g' T [] → ExAt X.mg Ex cls d H' x → W cls d σ H')) (fun _ _ => False) →
                ∃ m', m' < ds.length - i ∧ (m' = ds.length - (i + 1) ∧ i + 1 ≤ ds.length ∧ ∃ (acc : List O) (va : List V) (g2 : Gs), va.length = acc.length ∧ acc.length ≤ i + 1 ∧ Fit (wipe σ vs) g2 ∧ Rel X.K X.mg H6 ((D, .lst va) :: Ex) (roots (wipe σ vs) g2 ++ (va.zip acc ++ (Tk ++ (hidR σ g1 vs ++ T)))) [] ∧
                  Wp (lcM vs set tst me (ds.drop (i + 1)) acc g2) (fun os' g' => Wp (.ok (.lst os') (restG g1 vs g')) (fun o g' => ∀ v H', (false = true → g' = g ∧ Same H H') → At X H' Ex σ g' ((v, o) :: T) (Vs false ws) → Q v H') (fun x g' => ∀ H' cls d, At X H' Ex σ g' T [] → ExAt X.mg Ex cls d H' x → W cls d σ H')) (fun _ _ => False)) := by
              intro H6 g6 acc' va' h1 h2 f6 r6 w6
              refine ⟨_, by omega, rfl, hlt, acc', va', wipeG g6 vs, h1, h2, ?_, ?_, w6⟩
              · rw [← ew]; exact wipeFit f6 vs
              · rw [← ew]; exact wipeRel f6 r6
            cases b with
            | false => exact iteF (fin hva (by omega) a5.fit a5.noV.rel kk5)
            | true =>
              refine iteT ?_
              intro bk
              refine (he bk).ex.choose_spec.2 σ4 H5 _ g5 _ _ [] a5.noV.cx ((Wp.bd kk5).imp (fun o g6 kk6 y H6 s6 a6 => ?_) fun _ _ z => z.elim)
              obtain ⟨Hf, as, sm, hex, _⟩ := a6.rel.ex
              refine ⟨va, hex _ List.mem_cons_self, ?_, ?_⟩
              · rw [hva]
                exact Nat.lt_of_le_of_lt hacc (Nat.lt_of_lt_of_le hlt hsz)
              · refine fin (acc' := acc ++ [o]) (va' := va ++ [y]) (by simp [hva]) (by simp; omega) a6.fit ?_ kk6
                have r6 := a6.rel.write (.lst (va ++ [y]))
                refine r6.perm ?_
                rw [List.zip_append hva]
                simp only [List.zip_cons_cons, List.zip_nil_right, List.append_assoc]
                exact (List.perm_middle (a := (y, o))).symm.append_left _
          · have e : i = ds.length := by omega
            subst e
            rw [List.drop_length] at w2
            refine .inl ⟨wk.stop _ H2 _ _ (Nat.le_refl _) rTk, w2 _ H2 (fun z => by cases z) ?_⟩
            have r5 : Rel X.K X.mg H2 ((D, .lst va) :: Ex) (va.zip acc ++ (Tk ++ (roots (wipe σ vs) g2 ++ (hidR σ g1 vs ++ T)))) [] := by
              refine r2.perm ?_
              refine (List.perm_append_comm_assoc _ _ _).trans ?_
              exact (List.perm_append_comm_assoc _ _ _).append_left _
            have r6 := r5.shut (.lst (os := acc)) hva
            have r7 : Rel X.K X.mg H2 Ex (Tk ++ (roots (wipe σ vs) g2 ++ (hidR σ g1 vs ++ ((.ref D, .lst acc) :: T)))) [] := by
              refine r6.perm (List.Perm.symm ?_)
              refine ((List.perm_middle.append_left _).append_left _).trans ?_
              refine (List.perm_middle.append_left _).trans ?_
              exact List.perm_middle
            obtain ⟨f8, r8⟩ := restRel a1.fit vs f2 r7.dropL
            exact ⟨f8, r8⟩
    · exact kk.elim
  exact ⟨⟨_, pe_lc c.calm c.nd i1 ok p1 p2 p3 hs, core⟩, wi, tgU, ttU, teU, i1, p1, p2, p3, core⟩
end
end Z
namespace Z
open PySem PySem.Spec L2
def optAll : List (Option O) → Option (List O)
  | [] => some []
  | some o :: r => match optAll r with
    | some os => some (o :: os)
    | none => none
  | none :: _ => none
def isD : O → Bool
  | .d _ => true
  | _ => false
def finF (np : Nat) (os : List O) (o : O) (g : Gs) : FRes := match optAll (g.take np) with
  | some ps => .ok o (ps ++ os.drop np)
  | none => .bad
def Res.toFR : Res Fl → (Fl → Gs → FRes) → FRes
  | .ok fl g, k => k fl g
  | .ex x _, _ => .ex x
  | .bad, _ => .bad
  | .all f, k => .all fun v => (f v).toFR k
def Res.toF (r : Res Fl) (k : Fl → Gs → FRes) : FRes := match r with
  | .ok fl g => k fl g
  | .ex x _ => .ex x
  | .bad => .bad
  | .all f => .all fun v => (f v).toFR k
theorem Res.toFR_eq {k : Fl → Gs → FRes} : ∀ {r : Res Fl}, r.toFR k = r.toF k
  | .ok _ _ => rfl
  | .ex _ _ => rfl
  | .bad => rfl
  | .all _ => rfl
theorem Res.fw_toF {k : Fl → Gs → FRes} {A : O → List O → Prop} {B : Exn → Prop} : ∀ {r : Res Fl}, FW (r.toF k) A B ↔ Wp r (fun fl g => FW (k fl g) A B) (fun x _ => B x)
  | .ok fl g => Iff.rfl
  | .ex x _ => Iff.rfl
  | .bad => Iff.rfl
  | .all f => fw_all.trans ((forall_congr' fun v => by rw [Res.toFR_eq]; exact Res.fw_toF (r := f v)).trans wp_all.symm)
def endF (np : Nat) (os : List O) : Fl → Gs → FRes
  | .next, g => finF np os (.d .none) g
  | .ret o, g => finF np os o g
  | _, _ => .bad
def runF (np na nN : Nat) (m : M Fl) : Fn := fun os => if os.length = na ∧ (os.drop np).all isD = true then
    (m (os.map some ++ List.replicate (nN - na) none)).toF (endF np os)
  else .bad
theorem rootsApp : ∀ {s1 s2 : L2.St} {g1 g2 : Gs}, s1.length = g1.length → roots (s1 ++ s2) (g1 ++ g2) = roots s1 g1 ++ roots s2 g2
  | [], _, [], _, _ => by simp [roots]
  | s :: s1, s2, p :: g1, g2, h => by
    have ih := rootsApp (s1 := s1) (s2 := s2) (g1 := g1) (g2 := g2) (by simpa using h)
    cases s with
    | none => simpa only [List.cons_append, roots] using ih
    | some w => cases p <;> simp only [List.cons_append, roots, ih]
  | [], _, _ :: _, _, h => by simp at h
  | _ :: _, _, [], _, h => by simp at h
theorem rootsSome : ∀ {vs : List V} {os : List O}, vs.length = os.length → roots (vs.map some) (os.map some) = vs.zip os
  | [], [], _ => rfl
  | v :: vs, o :: os, h => by
    simp only [List.map_cons, roots, List.zip_cons_cons]
    rw [rootsSome (by simpa using h)]
  | [], _ :: _, h => by simp at h
  | _ :: _, [], h => by simp at h
theorem rootsRep : ∀ (n m : Nat), roots (List.replicate n none) (List.replicate m none) = []
  | 0, _ => by simp [roots]
  | n + 1, 0 => by simp [roots]
  | n + 1, m + 1 => by simp only [List.replicate_succ, roots]; exact rootsRep n m
theorem optAllMap : ∀ {l : List (Option O)} {os : List O}, optAll l = some os → l = os.map some
  | [], os, h => by simp only [optAll, Option.some.injEq] at h; subst h; rfl
  | some o :: r, os, h => by
    simp only [optAll] at h
    cases q : optAll r with
    | none => rw [q] at h; cases h
    | some y => rw [q] at h; cases h; rw [List.map_cons, ← optAllMap q]
  | none :: _, _, h => by simp [optAll] at h
section
variable {K : PySem.W.Frag} {mg : Str → Option Value} {H : Hp} {Ex : List (Addr × HO)} {T ws rs : Roots} {σ : L2.St} {g g1 : Gs}
theorem dupAll : ∀ {vs : List V} {os : List O} {rs : Roots}, os.all isD = true → Rel K mg H Ex (vs.zip os ++ rs) ws → Rel K mg H Ex (vs.zip os ++ (vs.zip os ++ rs)) ws
  | [], _, _, _, r => by simpa using r
  | _ :: _, [], _, _, r => by simpa using r
  | v :: vs, o :: os, rs, h, r => by
    simp only [List.all_cons, Bool.and_eq_true] at h
    cases o with
    | d x =>
      simp only [List.zip_cons_cons, List.cons_append] at r ⊢
      have r1 := r.dup
      have r2 : Rel K mg H Ex (vs.zip os ++ ((v, .d x) :: (v, .d x) :: rs)) ws := by
        refine r1.perm (List.Perm.symm ?_)
        exact List.perm_middle.trans (.cons _ List.perm_middle)
      have r3 := dupAll h.2 r2
      refine r3.perm ?_
      refine ((List.perm_middle.append_left _).trans List.perm_middle).trans (.cons _ ?_)
      exact (List.perm_middle.append_left _)
    | _ => simp [isD] at h
end
section
theorem fnG_of {CX : CXT} {P : Program} {w : World} {K : PySem.W.Frag} {mg : Str → Option Value} {base : Heap} {k : Nat} {f : Addr} {nm qual : Str} {pr : Arguments} {bd : List Stmt} {sc : Scope} {dV kV doc pm cdv ct oc : Value} {an od : Option Addr} {osl : Array (Option Value)} {N ps : List Str} {sp : Sp}
    (lk : K.lookup f = some ⟨oc, od, .func (PySem.W.fnOf nm qual pr bd sc dV kV doc pm an cdv ct), osl⟩) (hcd : PySem.W.codeIn K cdv qual = true) (S : FnScope N ps sc) (ln : ∀ vs H Q E, sp vs H Q E → vs.length = ps.length)
    (bo : ∀ (A : Around) (o : List Env) (s : Shared) (H : Hp) (vs : List V) (Q : VK) (E : XK), RoomG k (A.deeper (PyProof.Rows.envOfC qual sc s.heap.objs.size f cdv)) → sp vs H Q E →
      ∃ t, PSs (cxOf CX P w K mg base N qual sc f cdv A o s H E) bd t ∧ t { nx := fun _ H' => Q .non H', rt := Q } (L2.start N vs) H) : FnG P w K mg base CX (k + 1) f (PySem.W.fnOf nm qual pr bd sc dV kV doc pm an cdv ct) ps sp where
  len := ln
  run := by
    intro A o s H args us vs Q E hr e0 hb rv hsp
    have KX : K.In s.heap := e0.mod.kin.keeps fun b u z => (e0.bs b u z).1
    have lim : s.heap.NoLimit := e0.mod.nolimit.keeps fun b u z => (e0.bs b u z).1
    obtain ⟨t, ht, hq⟩ := bo A o s H vs Q E (hr.deeper _) hsp
    have par : ∀ y ∈ ps.zip us, sc.names.lookup y.1 = some .local ∨ (sc.names.lookup y.1 = some .cell ∧ ((cellsFrom (s.heap.objs.size + 1) sc.names []).lookup y.1).isSome = true) := by
      intro y hy
      obtain ⟨n, v⟩ := y
      have hn := (List.of_mem_zip hy).1
      exact (S.par n hn).imp id fun q => ⟨q, PySem.W.cellsFrom_some _ _ _ (.inl q)⟩
    refine codeAny_call_function hr.r.depth (KX _ _ lk) rfl S.co S.gen rfl (PySem.W.codeRec_of KX hcd) (hb _ _ _ _ (wpAny_newFunctionEnv_cells S.kind par fun env he s1 x => ?_))
    subst he
    refine ⟨lim.keeps x.toInCall.keep, codeAny_func ?_⟩
    refine wpAny_mono (ht.run [] s1 (L2.start N vs) H _ (inv_start S hr.hd e0 (ln _ _ _ _ hsp) rv x) hq) (fun fl s' z => ?_) fun e s' z => z
    cases fl with
    | ret u =>
      obtain ⟨v, σ', H', J, r1, q⟩ := z
      exact ⟨v, H', J.os, J.bare, J.base, J.hok, r1, q⟩
    | next =>
      obtain ⟨σ', H', J, q⟩ := z
      exact ⟨V.non, H', J.os, J.bare, J.base, J.hok, rfl, q⟩
    | brk =>
      obtain ⟨_, _, _, q⟩ := z
      exact q.elim
    | cont =>
      obtain ⟨_, _, _, q⟩ := z
      exact q.elim
end
section
variable {P : Program} {w : World} {K : PySem.W.Frag} {mg : Str → Option Value} {base : Heap}
/-- a def by its body -/
theorem funG {x qual : Str} {st : Stmt} {f : Addr} {fd : FuncData} {N ps : List Str} {k : Nat} {sp : Sp} (F : Fun K x qual st f fd) (S : FnScope N ps (defScope st)) (ln : ∀ vs H Q E, sp vs H Q E → vs.length = ps.length)
    (bo : ∀ (cdv : Value) (A : Around) (o : List Env) (s : Shared) (H : Hp) (vs : List V) (Q : VK) (E : XK), RoomG k (A.deeper (PyProof.Rows.envOfC qual (defScope st) s.heap.objs.size f cdv)) → sp vs H Q E →
      ∃ t, PSs (cxOf (L2.CX P w) P w K mg base N qual (defScope st) f cdv A o s H E) (defBody st) t ∧ t { nx := fun _ H' => Q .non H', rt := Q } (start N vs) H) : FnG P w K mg base (L2.CX P w) (k + 1) f fd ps sp := by
  obtain ⟨oc, od, kV, doc, pm, an, cdv, ct, osl, rfl, lk, hcd⟩ := F.ex
  exact fnG_of lk hcd S ln fun A o s H vs Q E hr hsp => bo cdv A o s H vs Q E hr hsp
theorem fnRule {x qual : Str} {st : Stmt} {f : Addr} {fd : FuncData} {N ps : List Str} {k : Nat} {m : M Fl} (np : Nat) (F : Fun K x qual st f fd) (S : FnScope N ps (defScope st)) (hnp : np ≤ ps.length)
    (hb : ∀ (cdv : Value) (A : Around) (outer : List Env) (s : Shared) (H : Hp) (E : XK), Cc (cxOf (L2.CX P w) P w K mg base N qual (defScope st) f cdv A outer s H E) (fun cls d _ H => E cls d H) k →
      EvSs (cxOf (L2.CX P w) P w K mg base N qual (defScope st) f cdv A outer s H E) (fun cls d _ H => E cls d H) np (defBody st) m) :
    FnG P w K mg base (L2.CX P w) (k + 1) f fd ps (spF K mg ps.length (runF np ps.length N.length m)) := by
  refine funG F S (fun vs H Q E h => h.1) (fun cdv A outer s H vs Q E hr h => ?_)
  obtain ⟨hvl, os, Ex, T, hol, r, w⟩ := h
  have c : Cc (cxOf (L2.CX P ‹World›) P ‹World› K mg base N qual (defScope st) f cdv A outer s H E) (fun cls d _ H => E cls d H) k := ⟨takes_of rfl rfl rfl rfl, hr, rfl, S.nd, passes_of rfl⟩
  obtain ⟨t, h1, h2⟩ := (hb cdv A outer s H E c).ex
  refine ⟨t, h1, ?_⟩
  unfold runF at w
  split at w
  · rename_i hcond
    obtain ⟨hol', hall⟩ := hcond
    have hvo : vs.length = os.length := hvl.trans hol.symm
    have hz : vs.zip os = (vs.take np).zip (os.take np) ++ (vs.drop np).zip (os.drop np) := by
      conv => lhs; rw [← List.take_append_drop np vs, ← List.take_append_drop np os]
      exact List.zip_append (by simp [hvo])
    have hroots : roots (L2.start N vs) (os.map some ++ List.replicate (N.length - ps.length) none) = vs.zip os := by
      unfold L2.start
      rw [rootsApp (by simp [hvo]), rootsSome hvo, rootsRep, List.append_nil]
    have a0 : At (cxOf (L2.CX P ‹World›) P ‹World› K mg base N qual (defScope st) f cdv A outer s H E) H Ex (L2.start N vs) (os.map some ++ List.replicate (N.length - ps.length) none) ((vs.drop np).zip (os.drop np) ++ T) [] := by
      refine ⟨⟨by unfold L2.start; simp [hvo, hvl, hol], fun i o hi => ?_⟩, ?_⟩
      · by_cases hlt : i < os.length
        · unfold L2.start
          rw [List.getElem?_append_left (by simpa [hvo] using hlt)]
          refine ⟨vs[i]'(by omega), ?_⟩
          rw [List.getElem?_map, List.getElem?_eq_getElem (by omega)]
          rfl
        · rw [List.getElem?_append_right (by simpa using hlt), List.getElem?_replicate] at hi
          split at hi <;> cases hi
      · rw [hroots]
        rw [hz, List.append_assoc] at r ⊢
        have r1 := r.perm (List.perm_append_comm_assoc _ _ _)
        have r2 := dupAll hall r1
        refine r2.perm ?_
        refine ((List.perm_append_comm_assoc _ _ _).append_left _).trans ?_
        exact List.perm_append_comm_assoc _ _ _
    -- the end: what the parameters hold
    have fin : ∀ {o : O} {g : Gs} {v : V} {σ' : L2.St} {H' : Hp}, FW (finF np os o g) (fun r ps' => ps'.length = ps.length ∧ ∀ v H', Rel K mg H' Ex ((v, r) :: (vs.zip ps' ++ T)) [] → Q v H') (fun x => ∀ H' cls d, Rel K mg H' Ex T [] → ExAt mg Ex cls d H' x → E cls d H') →
        Pin np (L2.start N vs) σ' → Fit σ' g → Rel K mg H' Ex ((v, o) :: (roots σ' g ++ ((vs.drop np).zip (os.drop np) ++ T))) [] → Q v H' := by
      intro o g v σ' H' fw pin fit rr
      unfold finF at fw
      cases q : optAll (g.take np) with
      | none => rw [q] at fw; exact fw.elim
      | some ps1 =>
        rw [q] at fw
        obtain ⟨hl, kq⟩ := fw
        refine kq v H' ?_
        have hg := optAllMap q
        have hps1 : ps1.length = np := by
          have : (ps1 ++ os.drop np).length = ps.length := hl
          rw [List.length_append, List.length_drop, hol] at this
          omega
        have hσ : σ'.take np = (vs.take np).map some := by
          apply List.ext_getElem?
          intro i
          by_cases hi : i < np
          · rw [List.getElem?_take_of_lt hi, pin i hi]
            unfold L2.start
            rw [List.getElem?_append_left (by simp [hvl]; omega), List.getElem?_map, List.getElem?_map, List.getElem?_take_of_lt hi]
          · rw [List.getElem?_eq_none (by simp; omega), List.getElem?_eq_none (by simp; omega)]
        have e1 : roots σ' g = (vs.take np).zip ps1 ++ roots (σ'.drop np) (g.drop np) := by
          conv => lhs; rw [← List.take_append_drop np σ', ← List.take_append_drop np g]
          rw [rootsApp (by simp [fit.len]), hσ, hg, rootsSome (by simp [hps1, hvl]; omega)]
        have e2 : vs.zip (ps1 ++ os.drop np) = (vs.take np).zip ps1 ++ (vs.drop np).zip (os.drop np) := by
          conv => lhs; rw [← List.take_append_drop np vs]
          exact List.zip_append (by simp [hps1, hvl]; omega)
        rw [e1] at rr
        rw [e2]
        have r1 : Rel K mg H' Ex (roots (σ'.drop np) (g.drop np) ++ ((v, o) :: ((vs.take np).zip ps1 ++ ((vs.drop np).zip (os.drop np) ++ T)))) [] := by
          refine rr.perm (List.Perm.symm ?_)
          refine List.perm_middle.trans (.cons _ ?_)
          rw [List.append_assoc]
          exact List.perm_append_comm_assoc _ _ _
        have r2 := r1.dropL
        rw [List.append_assoc]
        exact r2
    refine h2 (L2.start N vs) H _ _ _ Ex a0 ?_
    refine (Res.fw_toF.mp w).imp (fun fl g w => ?_) (fun x g w => ?_)
    · cases fl with
      | next =>
        intro σ' H' pin a'
        exact fin w pin a'.fit (a'.rel.data fun _ => .non)
      | ret o =>
        intro v σ' H' pin a'
        exact fin w pin a'.fit a'.top
      | brk => exact w.elim
      | cnt => exact w.elim
    · intro σ' H' cls d pin a' xa
      exact w H' cls d a'.rel.dropL.dropL xa
  · exact w.elim
end
end Z
namespace Z
open PySem PySem.Spec L2
section
variable {K : PySem.W.Frag} {mg : Str → Option Value} {H H' : Hp} {Ex : List (Addr × HO)} {T ws rs : Roots} {X : Cx}
theorem owAllD {Hf : Fz} : ∀ {vs : List V} {os : List O} {as : List Addr} {ds : List PyData}, OwL K mg Hf H vs os as → allD os = some ds → DpAll K Hf.h vs ds
  | _, _, _, ds, .nil, h => by simp only [allD, Option.some.injEq] at h; subst h; exact .nil
  | _, _, _, ds, .cons (o := o) (os := os) h t, e => by
    cases h with
    | d h =>
      simp only [allD] at e
      cases q : allD os with
      | none => rw [q] at e; cases e
      | some y => rw [q] at e; cases e; exact .cons h (owAllD t q)
    | _ => simp [allD] at e
theorem owOfD {Hf : Fz} : ∀ {vs : List V} {ds : List PyData}, DpAll K Hf.h vs ds → OwL K mg Hf H vs (ds.map O.d) []
  | _, _, .nil => .nil
  | _, _, .cons p q => .cons (as := []) (bs := []) (.d p) (owOfD q)
/-- the ground under a state: what is frozen, what is seen -/
theorem Rel.fr (r : Rel K mg H Ex rs ws) : ∃ Hf : Fz, Hf.on K H ∧ (∀ p ∈ ws, ∃ bs, Ow K mg Hf H p.1 p.2 bs) ∧ ∀ us ys, DpAll K Hf.h us ys → Rel K mg H Ex (us.zip (ys.map O.d) ++ rs) ws := by
  obtain ⟨Hf, as, s, he, ho, nd, hn, hw⟩ := r.ex
  refine ⟨Hf, s, hw, fun us ys h => ⟨Hf, as, s, he, ?_, nd, hn, hw⟩⟩
  obtain ⟨z1, z2⟩ := zipMap (l := us) (m := ys.map O.d) (by simpa using dpLen h)
  rw [List.map_append, List.map_append, z1, z2]
  exact owLApp (owOfD h) ho
def asL : O → Option (List PyData)
  | .d (.list ds) => some ds
  | .lst os => allD os
  | _ => none
def asT : O → Option (List PyData)
  | .d (.tuple ds) => some ds
  | _ => none
theorem owL {Hf : Fz} {v : V} {o : O} {as : List Addr} {ds : List PyData} (s : Hf.on K H) (h : Ow K mg Hf H v o as) (e : asL o = some ds) : ∃ a vs, v = .ref a ∧ SqL K H a vs ∧ DpAll K Hf.h vs ds := by
  cases h with
  | d h =>
    cases h with
    | lst h1 h2 =>
      simp only [asL, Option.some.injEq] at e
      subst e
      exact ⟨_, _, rfl, SqL.of (s.same _ _ h1), h2⟩
    | _ => simp [asL] at e
  | lst h t => exact ⟨_, _, rfl, SqL.of h, owAllD t (by simpa only [asL] using e)⟩
  | _ => simp [asL] at e
theorem owT {Hf : Fz} {v : V} {o : O} {as : List Addr} {ds : List PyData} (s : Hf.on K H) (h : Ow K mg Hf H v o as) (e : asT o = some ds) : ∃ a vs, v = .ref a ∧ SqT K H a vs ∧ DpAll K Hf.h vs ds := by
  cases h with
  | d h =>
    cases h with
    | tup h1 _ h2 =>
      simp only [asT, Option.some.injEq] at e
      subst e
      exact ⟨_, _, rfl, SqT.of (s.same _ _ h1), h2⟩
    | ftup h1 _ _ h2 =>
      simp only [asT, Option.some.injEq] at e
      subst e
      exact ⟨_, _, rfl, .inl (.inr ⟨_, s.same _ _ h1⟩), h2⟩
    | ktup h1 _ q _ h2 =>
      simp only [asT, Option.some.injEq] at e
      subst e
      exact ⟨_, _, rfl, .inr ⟨_, _, _, h1, q⟩, h2⟩
    | _ => simp [asT] at e
  | _ => simp [asT] at e
theorem owTD {Hf : Fz} {v : V} {o : O} {as : List Addr} {ds : List PyData} (h : Ow K mg Hf H v o as) (e : asT o = some ds) : Dp K Hf.h v (.tuple ds) := by
  cases h with
  | d h =>
    cases h with
    | tup h1 h0 h2 =>
      simp only [asT, Option.some.injEq] at e
      subst e
      exact .tup h1 h0 h2
    | ftup h1 h0 hj h2 =>
      simp only [asT, Option.some.injEq] at e
      subst e
      exact .ftup h1 h0 hj h2
    | ktup h1 h0 q hj h2 =>
      simp only [asT, Option.some.injEq] at e
      subst e
      exact .ktup h1 h0 q hj h2
    | _ => simp [asT] at e
  | _ => simp [asT] at e
theorem owDp {Hf : Fz} {v : V} {o : O} {as : List Addr} {x : PyData} (s : Hf.on K H) (h : Ow K mg Hf H v o as) (e : o.fz = some x) : Dp K H v x := dpMono (frzOn s.same as) (owFz s.same h e)
theorem owI {Hf : Fz} {v : V} {i : Int} {as : List Addr} (h : Ow K mg Hf H v (.d (.int i)) as) : v = .int i := by cases h with | d h => cases h; rfl
theorem owS {Hf : Fz} {v : V} {i : Str} {as : List Addr} (h : Ow K mg Hf H v (.d (.str i)) as) : v = .str i := by cases h with | d h => cases h; rfl
theorem owB {Hf : Fz} {v : V} {i : Bool} {as : List Addr} (h : Ow K mg Hf H v (.d (.bool i)) as) : v = .bl i := by cases h with | d h => cases h; rfl
theorem owN {Hf : Fz} {v : V} {as : List Addr} (h : Ow K mg Hf H v (.d .none) as) : v = .non := by cases h with | d h => cases h; rfl
/-- a new list of data, a new tuple of data -/
theorem Rel.mkLst {us : List V} {ys : List PyData} {p : Addr} (r : Rel K mg H Ex (us.zip (ys.map O.d) ++ rs) ws) (hl : us.length = ys.length) (hp : H p = none) : Rel K mg (upd H p (.lst us)) Ex ((.ref p, .lst (ys.map O.d)) :: rs) ws := r.newLst (by simpa using hl) hp
theorem mkTupD (ys : List PyData) : mkTup (ys.map O.d) = .d (.tuple ys) := by unfold mkTup; rw [allD_map]
theorem Rel.mkTupl {us : List V} {ys : List PyData} {Q : VK} (r : Rel K mg H Ex (us.zip (ys.map O.d) ++ rs) ws) (hl : us.length = ys.length) (k5 : ∀ v H', Same H H' → Rel K mg H' Ex ((v, .d (.tuple ys)) :: rs) ws → Q v H') : TupP H us Q :=
  r.newTup (os := ys.map O.d) (by simpa using hl) fun v H' s r' => k5 v H' s (by rwa [mkTupD] at r')
theorem dpApp {Hf : Hp} : ∀ {us vs : List V} {xs ys : List PyData}, DpAll K Hf us xs → DpAll K Hf vs ys → DpAll K Hf (us ++ vs) (xs ++ ys)
  | _, _, _, _, .nil, q => q
  | _, _, _, _, .cons a t, q => .cons a (dpApp t q)
theorem dpTake {Hf : Hp} : ∀ {us : List V} {xs : List PyData} (n : Nat), DpAll K Hf us xs → DpAll K Hf (us.take n) (xs.take n)
  | _, _, 0, _ => by simp only [List.take_zero]; exact .nil
  | _, _, n + 1, .nil => by simp only [List.take_nil]; exact .nil
  | _, _, n + 1, .cons a t => by simp only [List.take_succ_cons]; exact .cons a (dpTake n t)
theorem dpDrop {Hf : Hp} : ∀ {us : List V} {xs : List PyData} (n : Nat), DpAll K Hf us xs → DpAll K Hf (us.drop n) (xs.drop n)
  | _, _, 0, q => by simpa only [List.drop_zero] using q
  | _, _, n + 1, .nil => by simp only [List.drop_nil]; exact .nil
  | _, _, n + 1, .cons a t => by simp only [List.drop_succ_cons]; exact dpDrop n t
theorem dpGet? {Hf : Hp} : ∀ {vs : List V} {ds : List PyData} {i : Nat} {x : PyData}, DpAll K Hf vs ds → ds[i]? = some x → ∃ v, vs[i]? = some v ∧ Dp K Hf v x
  | _, _, _, _, .nil, h => by simp at h
  | _, _, 0, _, .cons a t, h => by simp only [List.getElem?_cons_zero, Option.some.injEq] at h; subst h; exact ⟨_, rfl, a⟩
  | _, _, i + 1, _, .cons a t, h => by simp only [List.getElem?_cons_succ] at h ⊢; exact dpGet? t h
def addF : List O → Option O
  | [.d (.int i), .d (.int j)] => some (.d (.int (i + j)))
  | [.d (.str i), .d (.str j)] => if lenOk (i.length + j.length) = true then some (.d (.str (i ++ j))) else none
  | [a, b] => match asL a, asL b with
    | some xs, some ys => if lenOk (xs.length + ys.length) = true then some (.lst ((xs ++ ys).map O.d)) else none
    | _, _ => match asT a, asT b with
      | some xs, some ys => if lenOk (xs.length + ys.length) = true then some (.d (.tuple (xs ++ ys))) else none
      | _, _ => none
  | _ => none
def rCatS (K : PySem.W.Frag) : R2 := fun x y H Q => ∃ l b xs zs, x = .ref l ∧ y = .ref b ∧ SqL K H l xs ∧ SqL K H b zs ∧ xs.length + zs.length ≤ sizeLine ∧ ∀ p, H p = none → Q (.ref p) (upd H p (.lst (xs ++ zs)))
open PyProof.Rows in
theorem op_catS : OpR X (binaryOp .Add) (rCatS X.K) := by
  intro pins s σ H x y v u Q I rx ry h
  obtain ⟨l, b, xs, zs, rfl, rfl, hH, hB, hz, q⟩ := h
  cases rx
  cases ry
  obtain ⟨its, r, ⟨⟨c1, d1, dt1, sl1⟩, n, e, hc, hd, hdt⟩, z⟩ := I.list hH
  obtain ⟨its2, r2, ⟨⟨c2, d2, dt2, sl2⟩, n2, e2, hc2, hd2, hdt2⟩, z2⟩ := I.list hB
  simp only at hc hdt hc2 hdt2
  subst hc hdt hc2 hdt2
  have hl := r.length
  have hl2 := r2.length
  refine concat_meets ⟨_, e, rfl⟩ ⟨_, e2, rfl⟩ noFill_list_add seq_list_add PySem.F.slot_list_add PySem.F.entry_list_add (PySem.F.args_list_add_2 _ _) (list_addW l b its.toArray its2.toArray n n2 d1 d2 sl1 sl2 (by rw [List.size_toArray, List.size_toArray]; omega)) ⟨e, e2, ?_⟩
  have ea : its.toArray ++ its2.toArray = (its ++ its2).toArray := by simp
  rw [ea]
  exact ⟨.ref _, _, I.lnew (t' := s.toks) (r.append r2) (by rw [List.length_append]; omega), rfl, q _ I.fresh⟩
/-- two tuples, one behind the other -/
def rCatE (K : PySem.W.Frag) : R2 := fun x y H Q => ∃ a b xs ys, (x = .ref a ∧ y = .ref b) ∧ (SqT K H a xs ∧ SqT K H b ys) ∧ xs.length + ys.length ≤ sizeLine ∧ (xs = [] → Q (.ref b) H) ∧ (xs ≠ [] → ys = [] → Q (.ref a) H) ∧ (xs ≠ [] → ys ≠ [] → TupP H (xs ++ ys) Q)
open PyProof.Rows in
theorem op_catE : OpR X (binaryOp .Add) (rCatE X.K) := by
  intro pins s σ H x y v u Q I rx ry h
  obtain ⟨a, b, xs, ys, ⟨ex, ey⟩, ⟨ta, tb⟩, hz, q0, q1, q2⟩ := h
  subst ex; subst ey
  cases rx; cases ry
  obtain ⟨us, r1, p1, _⟩ := I.tuple ta
  obtain ⟨ws, r2, p2, _⟩ := I.tuple tb
  by_cases hx : xs = []
  · subst hx
    cases r1
    exact cat_tup0 p1 p2 ⟨.ref b, H, I, rfl, q0 rfl⟩
  · have l1 := r1.length
    have l2 := r2.length
    refine HT.cat_tup p1 p2 (fun z => hx (r1.nil_iff.mp z)) (fun z => ⟨.ref a, H, I, rfl, q1 hx (r2.nil_iff.mp z)⟩) (fun z => ?_) (by omega)
    have e := invTup (t' := s.toks) I (r1.append r2) (by rw [List.length_append]; exact hz) (q2 hx fun w => z (r2.nil_iff.mpr w))
    exact e
def rAdd4 (K : PySem.W.Frag) : R2 := fun x y H Q => rI0 (fun i j => .int (i + j)) x y H Q ∨ (fun x y H Q => ∃ i j, x = V.str i ∧ y = V.str j ∧ i.length + j.length ≤ sizeLine ∧ Q (V.str (i ++ j)) H) x y H Q ∨ rCatS K x y H Q ∨ rCatE K x y H Q
theorem op_add4 : OpR X (binaryOp .Add) (rAdd4 X.K) := OpR.or op_add (OpR.or op_add_str (OpR.or op_catS op_catE))
theorem two {xs : List V} (h : xs.length = 2) : ∃ x y, xs = [x, y] := match xs, h with | [x, y], _ => ⟨x, y, rfl⟩
theorem one {xs : List V} (h : xs.length = 1) : ∃ x, xs = [x] := match xs, h with | [x], _ => ⟨x, rfl⟩
theorem zipHead {v : V} {o : O} {vs : List V} {os : List O} : (v, o) ∈ ((v :: vs).zip (o :: os)) ++ ws := by simp
theorem zipSnd {v u : V} {o o' : O} {vs : List V} {os : List O} : (u, o') ∈ ((v :: u :: vs).zip (o :: o' :: os)) ++ ws := by simp
theorem pr_add : PR X (r2L (rAdd4 X.K)) addF := by
  intro xs os H Ex rs ws Q o hl r hf k
  unfold addF at hf
  split at hf
  · rename_i i j
    cases hf
    obtain ⟨x, y, rfl⟩ := two hl
    obtain ⟨Hf, s, hw, cl⟩ := r.fr
    obtain ⟨_, h1⟩ := hw _ zipHead
    obtain ⟨_, h2⟩ := hw _ zipSnd
    obtain rfl := owI h1
    obtain rfl := owI h2
    exact .inl ⟨i, j, rfl, rfl, k _ _ (Same.refl _) (r.data fun _ => .int _)⟩
  · rename_i i j
    split at hf
    · rename_i hlen
      cases hf
      obtain ⟨x, y, rfl⟩ := two hl
      obtain ⟨Hf, s, hw, cl⟩ := r.fr
      obtain ⟨_, h1⟩ := hw _ zipHead
      obtain ⟨_, h2⟩ := hw _ zipSnd
      obtain rfl := owS h1
      obtain rfl := owS h2
      exact .inr (.inl ⟨i, j, rfl, rfl, lenOk_le hlen, k _ _ (Same.refl _) (r.data fun _ => .str _)⟩)
    · cases hf
  · rename_i a b _ _
    obtain ⟨x, y, rfl⟩ := two hl
    obtain ⟨Hf, s, hw, cl⟩ := r.fr
    obtain ⟨_, h1⟩ := hw _ zipHead
    obtain ⟨_, h2⟩ := hw _ zipSnd
    split at hf
    · rename_i xs ys e1 e2
      split at hf
      · rename_i hlen
        cases hf
        obtain ⟨l1, us, rfl, q1, p1⟩ := owL s h1 e1
        obtain ⟨l2, vs, rfl, q2, p2⟩ := owL s h2 e2
        have hz := lenOk_le hlen
        rw [← dpLen p1, ← dpLen p2] at hz
        refine .inr (.inr (.inl ⟨l1, l2, us, vs, rfl, rfl, q1, q2, hz, fun p hp => k _ _ (sameNew hp _) ?_⟩))
        exact (cl _ _ (dpApp p1 p2)).mkLst (dpLen (dpApp p1 p2)) hp
      · cases hf
    · split at hf
      · rename_i xs ys e1 e2
        split at hf
        · rename_i hlen
          cases hf
          obtain ⟨l1, us, rfl, q1, p1⟩ := owT s h1 e1
          obtain ⟨l2, vs, rfl, q2, p2⟩ := owT s h2 e2
          have hz := lenOk_le hlen
          have hn1 := dpLen p1
          have hn2 := dpLen p2
          rw [← hn1, ← hn2] at hz
          refine .inr (.inr (.inr ⟨l1, l2, us, vs, ⟨rfl, rfl⟩, ⟨q1, q2⟩, hz, fun z => ?_, fun z1 z2 => ?_, fun _ _ => ?_⟩))
          · subst z
            have e : xs = [] := List.length_eq_zero_iff.mp hn1.symm
            subst e
            refine k _ _ (Same.refl _) ?_
            have := cl [.ref l2] [.tuple ys] (.cons (owTD h2 e2) .nil)
            exact this
          · subst z2
            have e : ys = [] := List.length_eq_zero_iff.mp hn2.symm
            subst e
            simp only [List.append_nil] at k
            refine k _ _ (Same.refl _) ?_
            have := cl [.ref l1] [.tuple xs] (.cons (owTD h1 e1) .nil)
            exact this
          · exact (cl _ _ (dpApp p1 p2)).mkTupl (dpLen (dpApp p1 p2)) fun v H' s' r' => k v H' s' r'
        · cases hf
      · cases hf
  · cases hf
end
end Z
namespace Z
open PySem PySem.Spec L2
section
variable {K : PySem.W.Frag} {mg : Str → Option Value} {H H' : Hp} {Ex : List (Addr × HO)} {T ws rs : Roots} {X : Cx}
def i2F (c : Int → Int → Bool) (f : Int → Int → PyData) : List O → Option O
  | [.d (.int i), .d (.int j)] => if c i j = true then some (.d (f i j)) else none
  | _ => none
theorem pr_i2 {C : Int → Int → Prop} {gv : Int → Int → V} {c : Int → Int → Bool} {f : Int → Int → PyData} (hc : ∀ i j, c i j = true → C i j) (hd : ∀ i j Hf, Dp X.K Hf (gv i j) (f i j)) : PR X (r2L (rI C gv)) (i2F c f) := by
  intro xs os H Ex rs ws Q o hl r hf k
  unfold i2F at hf
  split at hf
  · rename_i i j
    split at hf
    · rename_i hcc
      cases hf
      obtain ⟨x, y, rfl⟩ := two hl
      obtain ⟨Hf, s, hw, cl⟩ := r.fr
      obtain ⟨_, h1⟩ := hw _ zipHead
      obtain ⟨_, h2⟩ := hw _ zipSnd
      obtain rfl := owI h1
      obtain rfl := owI h2
      exact ⟨i, j, rfl, rfl, hc i j hcc, k _ _ (Same.refl _) (r.data (hd i j))⟩
    · cases hf
  · cases hf
theorem pr_i20 {gv : Int → Int → V} {f : Int → Int → PyData} (hd : ∀ i j Hf, Dp X.K Hf (gv i j) (f i j)) : PR X (r2L (rI0 gv)) (i2F (fun _ _ => true) f) := by
  intro xs os H Ex rs ws Q o hl r hf k
  unfold i2F at hf
  split at hf
  · rename_i i j
    simp only [if_true] at hf
    cases hf
    obtain ⟨x, y, rfl⟩ := two hl
    obtain ⟨Hf, s, hw, cl⟩ := r.fr
    obtain ⟨_, h1⟩ := hw _ zipHead
    obtain ⟨_, h2⟩ := hw _ zipSnd
    obtain rfl := owI h1
    obtain rfl := owI h2
    exact ⟨i, j, rfl, rfl, k _ _ (Same.refl _) (r.data (hd i j))⟩
  · cases hf
def subF : List O → Option O := i2F (fun _ _ => true) fun i j => .int (i - j)
def mulC (i j : Int) : Bool := (decide (-18446744073709551616 < i) && decide (i < 18446744073709551616)) || (decide (-18446744073709551616 < j) && decide (j < 18446744073709551616))
def mulF : List O → Option O := i2F mulC fun i j => .int (i * j)
def divF : List O → Option O := i2F (fun _ j => decide (0 < j) && decide (j < 18446744073709551616)) fun i j => .int (i / j)
def modF : List O → Option O := i2F (fun _ j => decide (0 < j)) fun i j => .int (i % j)
def powC (i j : Int) : Bool := decide (0 ≤ j) && decide (j ≤ 1000000) && decide (i.natAbs < 18446744073709551616)
def powF : List O → Option O := i2F powC fun i j => .int (i ^ j.toNat)
def ltF : List O → Option O := i2F (fun _ _ => true) fun i j => .bool (decide (i < j))
def leF : List O → Option O := i2F (fun _ _ => true) fun i j => .bool (decide (i ≤ j))
def gtF : List O → Option O := i2F (fun _ _ => true) fun i j => .bool (decide (j < i))
def geF : List O → Option O := i2F (fun _ _ => true) fun i j => .bool (decide (j ≤ i))
theorem pr_sub : PR X (r2L (rI0 fun i j => .int (i - j))) subF := pr_i20 fun _ _ _ => .int _
theorem pr_lt : PR X (r2L (rI0 fun i j => .bl (decide (i < j)))) ltF := pr_i20 fun _ _ _ => .bl _
theorem pr_le : PR X (r2L (rI0 fun i j => .bl (decide (i ≤ j)))) leF := pr_i20 fun _ _ _ => .bl _
theorem pr_gt : PR X (r2L (rI0 fun i j => .bl (decide (j < i)))) gtF := pr_i20 fun _ _ _ => .bl _
theorem pr_mul : PR X (r2L (rI CMul fun i j => .int (i * j))) mulF := pr_i2 (fun i j h => by
  unfold mulC at h
  simp only [Bool.or_eq_true, Bool.and_eq_true, decide_eq_true_eq] at h
  unfold CMul
  rcases h with h | h
  · exact .inl ⟨by omega, by omega⟩
  · exact .inr ⟨by omega, by omega⟩) fun _ _ _ => .int _
theorem pr_div : PR X (r2L (rI CDivW fun i j => .int (i / j))) divF := pr_i2 (fun i j h => by
  simp only [Bool.and_eq_true, decide_eq_true_eq] at h
  exact wide_div (b := 64) h.1 (by have := h.2; omega) (by decide) (by decide)) fun _ _ _ => .int _
theorem pr_mod : PR X (r2L (rI (fun _ j => 0 < j) fun i j => .int (i % j))) modF := pr_i2 (fun i j h => of_decide_eq_true h) fun _ _ _ => .int _
theorem powC_ok {i j : Int} (h : powC i j = true) : CPow i j := by
  unfold powC at h
  simp only [Bool.and_eq_true, decide_eq_true_eq] at h
  exact ⟨h.1.1, h.1.2, by have := h.2; omega⟩
theorem pr_pow : PR X (r2L (rI CPow fun i j => .int (i ^ j.toNat))) powF := pr_i2 (fun i j h => powC_ok h) fun _ _ _ => .int _
def negF : List O → Option O
  | [.d (.int i)] => some (.d (.int (-i)))
  | _ => none
def eqB (a b : O) : Option Bool := match a.fz, b.fz with
  | some (.str x), some (.str y) => some (x == y)
  | some d, some e => if SeqAt.shaped d = true ∧ SeqAt.shaped e = true then some (PyData.eqv d e) else none
  | _, _ => none
def eqF : List O → Option O
  | [a, b] => match eqB a b with | some k => some (.d (.bool k)) | none => none
  | _ => none
def neF : List O → Option O
  | [a, b] => match eqB a b with | some k => some (.d (.bool (!k))) | none => none
  | _ => none
def rEq2 (K : PySem.W.Frag) : R2 := fun x y H Q => rEq x y H Q ∨ rEqD K x y H Q
def rNe2 (K : PySem.W.Frag) : R2 := fun x y H Q => rNe x y H Q ∨ rNeD K x y H Q
theorem op_eq2 (hu : X.A.units + 64 < cLine) : OpR X (compareOp .Eq) (rEq2 X.K) := OpR.or op_eq (op_eqD hu)
theorem op_ne2 (hu : X.A.units + 64 < cLine) : OpR X (compareOp .NotEq) (rNe2 X.K) := OpR.or op_ne (op_neD hu)
theorem eqB_ok {Hf : Fz} {x y : V} {a b : O} {as bs : List Addr} {k : Bool} (s : Hf.on K H) (h1 : Ow K mg Hf H x a as) (h2 : Ow K mg Hf H y b bs) (e : eqB a b = some k) :
    (∃ u v, x = .str u ∧ y = .str v ∧ k = (u == v)) ∨ ∃ d e, L2.Dp K H x d ∧ L2.Dp K H y e ∧ SeqAt.shaped d = true ∧ SeqAt.shaped e = true ∧ k = PyData.eqv d e := by
  unfold eqB at e
  split at e
  · rename_i u v e1 e2
    cases e
    have d1 := owDp s h1 e1
    have d2 := owDp s h2 e2
    cases d1; cases d2
    exact .inl ⟨u, v, rfl, rfl, rfl⟩
  · rename_i d e' _ e1 e2
    split at e
    · rename_i hs
      cases e
      exact .inr ⟨d, e', dpTo (owDp s h1 e1), dpTo (owDp s h2 e2), hs.1, hs.2, rfl⟩
    · cases e
  · cases e
theorem pr_eq : PR X (r2L (rEq2 X.K)) eqF := by
  intro xs os H Ex rs ws Q o hl r hf k
  unfold eqF at hf
  split at hf
  · rename_i a b
    cases q : eqB a b with
    | none => rw [q] at hf; cases hf
    | some kk =>
      rw [q] at hf
      cases hf
      obtain ⟨x, y, rfl⟩ := two hl
      obtain ⟨Hf, s, hw, cl⟩ := r.fr
      obtain ⟨_, h1⟩ := hw _ zipHead
      obtain ⟨_, h2⟩ := hw _ zipSnd
      have fin := k (.bl kk) _ (Same.refl _) (r.data fun _ => .bl _)
      rcases eqB_ok s h1 h2 q with ⟨u, v, e1, e2, e3⟩ | ⟨d, e, d1, d2, s1, s2, e3⟩
      · simp only at e1 e2
        subst e1; subst e2; subst e3
        refine .inl ⟨rfl, ?_⟩
        rw [dec_str]
        exact fin
      · subst e3
        exact .inr ⟨d, e, d1, d2, s1, s2, fin⟩
  · cases hf
theorem pr_ne : PR X (r2L (rNe2 X.K)) neF := by
  intro xs os H Ex rs ws Q o hl r hf k
  unfold neF at hf
  split at hf
  · rename_i a b
    cases q : eqB a b with
    | none => rw [q] at hf; cases hf
    | some kk =>
      rw [q] at hf
      cases hf
      obtain ⟨x, y, rfl⟩ := two hl
      obtain ⟨Hf, s, hw, cl⟩ := r.fr
      obtain ⟨_, h1⟩ := hw _ zipHead
      obtain ⟨_, h2⟩ := hw _ zipSnd
      have fin := k (.bl (!kk)) _ (Same.refl _) (r.data fun _ => .bl _)
      rcases eqB_ok s h1 h2 q with ⟨u, v, e1, e2, e3⟩ | ⟨d, e, d1, d2, s1, s2, e3⟩
      · simp only at e1 e2
        subst e1; subst e2; subst e3
        refine .inl ⟨rfl, ?_⟩
        rw [dec_str]
        exact fin
      · subst e3
        exact .inr ⟨d, e, d1, d2, s1, s2, fin⟩
  · cases hf
def flatD : PyData → Bool
  | .none => true | .bool _ => true | .int _ => true | .str _ => true | _ => false
theorem flat_of {Hf : Hp} {v : V} {d : PyData} (h : Dp K Hf v d) (f : flatD d = true) : flatV v = true := by cases h <;> first | rfl | simp [flatD] at f
theorem flatAll_of {Hf : Hp} : ∀ {vs : List V} {ds : List PyData}, DpAll K Hf vs ds → ds.all flatD = true → vs.all flatV = true
  | _, _, .nil, _ => rfl
  | _, _, .cons a t, f => by
    simp only [List.all_cons, Bool.and_eq_true] at f ⊢
    exact ⟨flat_of a f.1, flatAll_of t f.2⟩
theorem eqV_of {Hf : Hp} {v u : V} {d e : PyData} (h : Dp K Hf v d) (h2 : Dp K Hf u e) (f : flatD d = true) (f2 : flatD e = true) : eqV v u = PyData.eqv d e := by
  cases h <;> cases h2 <;> first | (simp [flatD] at f; done) | (simp [flatD] at f2; done) | simp [eqV, PyData.eqv]
theorem inV_of {Hf : Hp} {u : V} {e : PyData} (h2 : Dp K Hf u e) (f2 : flatD e = true) : ∀ {vs : List V} {ds : List PyData}, DpAll K Hf vs ds → ds.all flatD = true → inV u vs = ds.any fun z => PyData.eqv z e
  | _, _, .nil, _ => rfl
  | _, _, .cons a t, f => by
    simp only [List.all_cons, Bool.and_eq_true] at f
    have ih := inV_of h2 f2 t f.2
    unfold inV at ih ⊢
    simp only [List.any_cons, ih, eqV_of a h2 f.1 f2]
def asLT (o : O) : Option (List PyData) := match asL o with
  | some ds => some ds
  | none => match o with
    | .gL ds => some ds
    | .gT ds => some ds
    | o => asT o
def inB (a b : O) : Option Bool := match a, b with
  | .d (.str x), .d (.str z) => match x.cps.toList with
    | [c] => some (decide (c ∈ z.cps.toList))
    | _ => none
  | .d e, b => match asLT b with
    | some ds => if flatD e = true ∧ ds.all flatD = true then some (ds.any fun z => PyData.eqv z e) else none
    | none => none
  | _, _ => none
def rInS (neg : Bool) : R2 := fun x y H Q => ∃ (c : Nat) (z : Str), x = .str ⟨#[c]⟩ ∧ y = .str z ∧ Q (.bl (if neg then !decide (c ∈ z.cps.toList) else decide (c ∈ z.cps.toList))) H
def rIn2 (K : PySem.W.Frag) (neg : Bool) : R2 := fun x y H Q => rInS neg x y H Q ∨ rIn K neg x y H Q
theorem op_in2 : OpR X (compareOp .In) (rIn2 X.K false) := OpR.or op_in_sign op_in_seq
theorem op_notIn2 : OpR X (compareOp .NotIn) (rIn2 X.K true) := OpR.or op_notIn_sign op_notIn_seq
def inF (neg : Bool) : List O → Option O
  | [a, b] => match inB a b with | some k => some (.d (.bool (if neg then !k else k))) | none => none
  | _ => none
theorem owLTseq {Hf : Fz} {v : V} {o : O} {as : List Addr} {ds : List PyData} (s : Hf.on K H) (h : Ow K mg Hf H v o as) (e : asLT o = some ds) : ∃ a vs, v = .ref a ∧ (SqL K H a vs ∨ SqT K H a vs) ∧ DpAll K Hf.h vs ds := by
  unfold asLT at e
  split at e
  · rename_i ds' e1
    cases e
    obtain ⟨a, vs, e2, q, p⟩ := owL s h e1
    exact ⟨a, vs, e2, .inl q, p⟩
  · split at e
    · cases e
      cases h with
      | gL q p => exact ⟨_, _, rfl, .inl (s.seq q), p⟩
    · cases e
      cases h with
      | gT q p => exact ⟨_, _, rfl, .inr (sameT s.same q), p⟩
    · obtain ⟨a, vs, e2, q, p⟩ := owT s h e
      exact ⟨a, vs, e2, .inr q, p⟩
theorem str1 {x : Str} {c : Nat} (h : x.cps.toList = [c]) : x = ⟨#[c]⟩ := by
  obtain ⟨cs⟩ := x
  have : cs = #[c] := by
    apply Array.toList_inj.mp
    simpa using h
  rw [this]
theorem pr_in {neg : Bool} : PR X (r2L (rIn2 X.K neg)) (inF neg) := by
  intro xs os H Ex rs ws Q o hl r hf k
  unfold inF at hf
  split at hf
  · rename_i a b
    cases q : inB a b with
    | none => rw [q] at hf; cases hf
    | some kk =>
      rw [q] at hf
      cases hf
      obtain ⟨x, y, rfl⟩ := two hl
      obtain ⟨Hf, s, hw, cl⟩ := r.fr
      obtain ⟨_, h1⟩ := hw _ zipHead
      obtain ⟨_, h2⟩ := hw _ zipSnd
      have fin := k (.bl (if neg then !kk else kk)) _ (Same.refl _) (r.data fun _ => .bl _)
      unfold inB at q
      split at q
      · rename_i u z
        split at q
        · rename_i c hc
          cases q
          have e1 := owS h1
          have e2 := owS h2
          simp only at e1 e2
          subst e1; subst e2
          exact .inl ⟨c, z, by rw [str1 hc], rfl, fin⟩
        · cases q
      · rename_i e b' _
        split at q
        · rename_i ds e1
          split at q
          · rename_i hfl
            cases q
            obtain ⟨ad, vs, e2, sq, p⟩ := owLTseq s h2 e1
            simp only at e2
            subst e2
            cases h1 with
            | d h1 =>
              refine .inr ⟨ad, vs, rfl, sq, flat_of h1 hfl.1, flatAll_of p hfl.2, ?_⟩
              rw [inV_of h1 hfl.1 p hfl.2]
              exact fin
          · cases q
        · cases q
      · cases q
  · cases hf
def ixF : List O → Option O
  | [.d (.str z), .d (.int i)] => if lenOk z.length = true then match atI z.cps.toList i with
      | some c => some (.d (.str ⟨#[c]⟩))
      | none => none else none
  | [a, .d (.int i)] => match asLT a with
    | some ds => match atI ds i with
      | some x => some (.d x)
      | none => none
    | none => none
  | _ => none
theorem atI_dp {Hf : Hp} {vs : List V} {ds : List PyData} {i : Int} {x : PyData} (h : DpAll K Hf vs ds) (e : atI ds i = some x) : ∃ v, atI vs i = some v ∧ Dp K Hf v x := by
  unfold atI at e ⊢
  rw [dpLen h]
  cases q : ixN ds.length i with
  | none => rw [q] at e; cases e
  | some j =>
    rw [q] at e
    simp only [Option.bind_some] at e ⊢
    exact dpGet? h e
theorem pr_ix : PR X (r2L (rIx X.K)) ixF := by
  intro xs os H Ex rs ws Q o hl r hf k
  unfold ixF at hf
  split at hf
  · rename_i z i
    split at hf
    · rename_i hlen
      split at hf
      · rename_i c hc
        cases hf
        obtain ⟨x, y, rfl⟩ := two hl
        obtain ⟨Hf, s, hw, cl⟩ := r.fr
        obtain ⟨_, h1⟩ := hw _ zipHead
        obtain ⟨_, h2⟩ := hw _ zipSnd
        obtain rfl := owS h1
        obtain rfl := owI h2
        exact .inr (.inr ⟨z, i, c, rfl, rfl, lenOk_le hlen, hc, k _ _ (Same.refl _) (r.data fun _ => .str _)⟩)
      · cases hf
    · cases hf
  · rename_i a i _
    split at hf
    · rename_i ds e1
      split at hf
      · rename_i y e2
        cases hf
        obtain ⟨x, y, rfl⟩ := two hl
        obtain ⟨Hf, s, hw, cl⟩ := r.fr
        obtain ⟨_, h1⟩ := hw _ zipHead
        obtain ⟨_, h2⟩ := hw _ zipSnd
        obtain rfl := owI h2
        obtain ⟨ad, vs, e3, sq, p⟩ := owLTseq s h1 e1
        simp only at e3
        subst e3
        obtain ⟨v, e4, dv⟩ := atI_dp p e2
        have fin := k v _ (Same.refl _) (cl [v] _ (.cons dv .nil))
        rcases sq with sq | sq
        · exact .inl ⟨ad, vs, i, v, rfl, rfl, sq, e4, fin⟩
        · exact .inr (.inl ⟨ad, vs, i, v, rfl, rfl, sq, e4, fin⟩)
      · cases hf
    · cases hf
  · cases hf
end
end Z
namespace Z
open PySem PySem.Spec L2
section
variable {X : Cx} {W : WX} {pu pv pw : Bool} {H H' : Hp} {Ex : List (Addr × HO)} {σ σ' : L2.St} {g : Gs} {T T' ws ws' rs : Roots} {e a b o lo hi : Expr} {es : List Expr} {m : M O} {ms : M (List O)} {pos p p2 apos : Pos} {k j np : Nat} {x : Str}
theorem ev_ix {r : R2} {f : List O → Option O} (hr : IxR X r) (pr : PR X (r2L r) f) (h : EvAs X W pu [a, b] ms) (hs : PlainIx b := by exact fun _ _ => rfl) : Ev X W pu (.Subscript a b pos) (opM f ms) := by
  obtain ⟨ts, g1, g2⟩ := h.ex
  cases g1 with
  | cons p1 _ g1 =>
    cases g1 with
    | cons p2 _ g1 =>
      cases g1
      exact ⟨_, pe_ix hr p1 p2 hs, opCore pr g2⟩
/-- a slice of a tuple; the whole of it is the tuple itself -/
def rSlE (K : PySem.W.Frag) : V → Option Int → Option Int → Hp → VK → Prop := fun x lo hi H Q => ∃ a xs, x = .ref a ∧ SqT K H a xs ∧ ((HT.sIx xs.length 0 lo = 0 ∧ HT.sIx xs.length xs.length hi = xs.length) → Q (.ref a) H) ∧
  (¬ (HT.sIx xs.length 0 lo = 0 ∧ HT.sIx xs.length xs.length hi = xs.length) → TupP H (cutV xs lo hi) Q)
open PyProof.Rows in
theorem sl_tupE : SlR X (rSlE X.K) := by
  intro pins s σ H x v vl vu lo hi sl Q I rx hs pl pu h
  obtain ⟨a, xs, ex, ta, w1, w2⟩ := h
  subst ex
  cases rx
  obtain ⟨us, r, tt, hz⟩ := I.tuple ta
  have eu : us.toArray.size = xs.length := by rw [List.size_toArray, r.length]
  refine ⟨"tuple", _, slot_tuple_getitem.lookup, tt.typeIs, ?_⟩
  by_cases hw : HT.sIx xs.length 0 lo = 0 ∧ HT.sIx xs.length xs.length hi = xs.length
  · exact getItem_tuple_whole tt hs pl pu (by rw [eu]; exact hw) ⟨.ref a, H, I, rfl, w1 hw⟩
  · refine HT.getItem_tuple_cut tt hs pl pu (by rw [eu]; exact hw) ?_ (by rw [eu]; exact hz)
    rw [eu]
    have r2 := (r.drop (HT.sIx xs.length 0 lo)).take (HT.sIx xs.length xs.length hi - HT.sIx xs.length 0 lo)
    exact invTup (t' := s.toks) I r2 (Nat.le_trans (cutV_length xs lo hi) hz) (w2 hw)
/-- tuple(..) of a list, of a tuple -/
theorem call_tupE : CallR X (.type "tuple") (fun xs H Q => ∃ p ys, xs = [.ref p] ∧ ((SqL X.K H p ys ∧ TupP H ys Q) ∨ (SqT X.K H p ys ∧ Q (.ref p) H))) := by
  intro pins s σ H xs us Q I r h
  obtain ⟨p, ys, ex, h⟩ := h
  subst ex
  obtain ⟨u, eu, rx⟩ := vals1 r
  subst eu
  cases rx
  rcases h with ⟨hq, w⟩ | ⟨hq, w⟩
  · obtain ⟨its, r', pl, hz⟩ := I.list hq
    have hlen := r'.length
    refine call_tuple_list pl.isList (fun h' kp => ?_) (by rw [List.size_toArray]; omega)
    exact invTup (s := { s with heap := h' }) (t' := s.toks) (I.kept (t' := s.toks) kp) r' hz w
  · obtain ⟨its, r', pl, hz⟩ := I.tuple hq
    exact call_tuple_same pl ⟨.ref p, H, I, rfl, w⟩
def rSlAll (K : PySem.W.Frag) : V → Option Int → Option Int → Hp → VK → Prop := fun x lo hi H Q => rSlL K x lo hi H Q ∨ rSlE K x lo hi H Q ∨ rSlS x lo hi H Q
theorem sl_all : SlR X (rSlAll X.K) := SlR.or sl_list (SlR.or sl_tupE sl_str)
def cutD {α : Type} (xs : List α) (lo hi : Option Int) : List α := (xs.drop (HT.sIx xs.length 0 lo)).take (HT.sIx xs.length xs.length hi - HT.sIx xs.length 0 lo)
def slB (o : O) (lo hi : Option Int) : Option O := match o with
  | .d (.str z) => if lenOk z.length = true then some (.d (.str (cutS z lo hi))) else none
  | o => match asL o with
    | some ds => some (.lst ((cutD ds lo hi).map O.d))
    | none => match asT o with
      | some ds => some (.d (.tuple (cutD ds lo hi)))
      | none => none
theorem cut_dp {K : PySem.W.Frag} {Hf : Hp} {vs : List V} {ds : List PyData} (h : DpAll K Hf vs ds) (lo hi : Option Int) : DpAll K Hf (cutV vs lo hi) (cutD ds lo hi) := by
  unfold cutV cutD
  rw [dpLen h]
  exact dpTake _ (dpDrop _ h)
theorem slB_ok {v : V} {o o' : O} {lo hi : Option Int} {Q : VK} (r : Rel X.K X.mg H Ex rs ws) (hv : (v, o) ∈ ws) (e : slB o lo hi = some o') (k : ∀ v H', Same H H' → Rel X.K X.mg H' Ex ((v, o') :: rs) ws → Q v H') : rSlAll X.K v lo hi H Q := by
  obtain ⟨Hf, s, hw, cl⟩ := r.fr
  obtain ⟨_, h1⟩ := hw _ hv
  unfold slB at e
  split at e
  · rename_i z
    split at e
    · rename_i hl
      cases e
      obtain rfl := owS h1
      exact .inr (.inr ⟨z, rfl, lenOk_le hl, k _ _ (Same.refl _) (r.data fun _ => .str _)⟩)
    · cases e
  · rename_i o _
    split at e
    · rename_i ds e1
      cases e
      obtain ⟨ad, vs, e2, sq, pp⟩ := owL s h1 e1
      simp only at e2
      subst e2
      refine .inl ⟨ad, vs, rfl, sq, fun q hq => k _ _ (sameNew hq _) ?_⟩
      exact (cl _ _ (cut_dp pp lo hi)).mkLst (dpLen (cut_dp pp lo hi)) hq
    · split at e
      · rename_i ds e1
        cases e
        have hD := owTD h1 e1
        obtain ⟨ad, vs, e2, sq, pp⟩ := owT s h1 e1
        simp only at e2
        subst e2
        refine .inr (.inl ⟨ad, vs, rfl, sq, fun hwhole => k _ _ (Same.refl _) ?_, fun _ => ?_⟩)
        · have e3 : cutD ds lo hi = ds := by
            unfold cutD
            rw [dpLen pp] at hwhole
            rw [hwhole.1, hwhole.2, List.drop_zero, Nat.sub_zero, List.take_length]
          rw [e3]
          exact cl [_] [_] (.cons hD .nil)
        · exact (cl _ _ (cut_dp pp lo hi)).mkTupl (dpLen (cut_dp pp lo hi)) fun v H' s' r' => k v H' s' r'
      · cases e
def slF (l h : Bool) : List O → Option O
  | [a] => if l = false ∧ h = false then slB a none none else none
  | [a, .d (.int i)] => if l = true ∧ h = false then slB a (some i) none else if l = false ∧ h = true then slB a none (some i) else none
  | [a, .d (.int i), .d (.int j)] => if l = true ∧ h = true then slB a (some i) (some j) else none
  | _ => none
theorem ev_slLo (h : EvAs X W pu [a, lo] ms) : Ev X W pu (.Subscript a (.Slice (some lo) none none p2) pos) (opM (slF true false) ms) := by
  obtain ⟨ts, g1, g2⟩ := h.ex
  cases g1 with
  | cons p1 _ g1 =>
    cases g1 with
    | cons p2 _ g1 =>
      cases g1
      refine ⟨_, pe_slice sl_all p1 (po_some p2) po_none, opCore (r := fun xs H Q => match xs with | [x, y] => ∃ i, y = V.int i ∧ rSlAll X.K x (some i) none H Q | _ => False) (fun xs os H Ex rs ws Q o hl r hf kk => ?_) g2⟩
      unfold slF at hf
      split at hf
      · simp at hf
      · rename_i a i
        simp only [and_self, if_true] at hf
        obtain ⟨x, y, rfl⟩ := two hl
        obtain ⟨Hf, s, hw, cl⟩ := r.fr
        obtain ⟨_, h2⟩ := hw _ zipSnd
        exact ⟨i, owI h2, slB_ok r zipHead hf kk⟩
      · simp at hf
      · cases hf
theorem ev_slHi (h : EvAs X W pu [a, hi] ms) : Ev X W pu (.Subscript a (.Slice none (some hi) none p2) pos) (opM (slF false true) ms) := by
  obtain ⟨ts, g1, g2⟩ := h.ex
  cases g1 with
  | cons p1 _ g1 =>
    cases g1 with
    | cons p2 _ g1 =>
      cases g1
      refine ⟨_, pe_slice sl_all p1 po_none (po_some p2), opCore (r := fun xs H Q => match xs with | [x, y] => ∃ i, y = V.int i ∧ rSlAll X.K x none (some i) H Q | _ => False) (fun xs os H Ex rs ws Q o hl r hf kk => ?_) g2⟩
      unfold slF at hf
      split at hf
      · simp at hf
      · rename_i a i
        simp at hf
        obtain ⟨x, y, rfl⟩ := two hl
        obtain ⟨Hf, s, hw, cl⟩ := r.fr
        obtain ⟨_, h2⟩ := hw _ zipSnd
        exact ⟨i, owI h2, slB_ok r zipHead hf kk⟩
      · simp at hf
      · cases hf
def asI : O → M Int := fun o g => match o with
  | .d (.int b) => .ok b g
  | _ => .bad
theorem wpI {o : O} {g : Gs} {A : Int → Gs → Prop} {B : Exn → Gs → Prop} (h : Wp (asI o g) A B) : ∃ b, o = .d (.int b) ∧ A b g := by
  unfold asI at h
  split at h
  · exact ⟨_, rfl, h⟩
  · exact h.elim
def optM (o : Option O) : M O := fun g => match o with
  | some r => .ok r g
  | none => .bad
theorem wpOpt {o : Option O} {g : Gs} {A : O → Gs → Prop} {B : Exn → Gs → Prop} (h : Wp (optM o g) A B) : ∃ b, o = some b ∧ A b g := by
  unfold optM at h
  split at h
  · exact ⟨_, rfl, h⟩
  · exact h.elim
def slLhM (ma ml mh : M O) : M O := M.bd ma fun o => M.bd ml fun oi => M.bd (asI oi) fun i => M.bd mh fun oj => M.bd (asI oj) fun j => optM (slB o (some i) (some j))
theorem ev_slLh {ml mh : M O} (ha : EvP X W pu a m) (hl : Ev X W true lo ml) (hh : Ev X W true hi mh) : Ev X W pu (.Subscript a (.Slice (some lo) (some hi) none p2) pos) (slLhM m ml mh) := by
  obtain ⟨ta, a1, a2⟩ := ha.ex
  obtain ⟨tl, l1, l2⟩ := hl.ex
  obtain ⟨th, h1, h2⟩ := hh.ex
  refine ⟨_, pe_slice sl_all a1 (po_some l1) (po_some h1), fun σ H Q g T Ex ws a w => ?_⟩
  refine a2 σ H _ g T Ex ws a (w.bd.imp (fun o g1 kk v H1 s1 b1 => ?_) fun _ _ kk => kk)
  refine l2 σ H1 _ g1 _ Ex _ b1 (kk.bd.imp (fun oi g2 kk u H2 s2 b2 => ?_) fun x g2 kk H' cls d a2 e => kk H' cls d a2 e)
  obtain ⟨i, rfl, k2⟩ := wpI kk.bd
  refine ⟨i, b2.top.isI, ?_⟩
  refine h2 σ H2 _ g2 _ Ex _ b2.drop (k2.bd.imp (fun oj g3 kk z H3 s3 b3 => ?_) fun x g2 kk H' cls d a2 e => kk H' cls d a2 e)
  obtain ⟨j, rfl, k3⟩ := wpI kk.bd
  obtain ⟨o', ho, k4⟩ := wpOpt k3
  refine ⟨j, b3.top.isI, ?_⟩
  refine slB_ok b3.drop.rel List.mem_cons_self ho fun v H' s4 r4 => k4 v H' (fun t => ?_) (.ofTop b3.fit (r4.views fun p m => List.mem_cons_of_mem _ m))
  obtain ⟨e1, f1⟩ := s1 t
  obtain ⟨e2, f2⟩ := s2 rfl
  obtain ⟨e3, f3⟩ := s3 rfl
  exact ⟨e3.trans (e2.trans e1), f1.trans (f2.trans (f3.trans s4))⟩
theorem ev_bi {id : String} {r : List V → Hp → VK → Prop} {f : List O → Option O} (hc : CallR X (.builtin id) r) (pr : PR X r f) (hm : X.mg x = none) (hv : bootBuiltins x = some (.builtin id)) (h : EvAs X W pu (e :: es) ms) (hg : Gl X x := by rfl)
    (hn : x ≠ "__name__" := by decide) (hdb : (x == ("__debug__" : Str)) = false := by decide) (he : starEach (e :: es) X.env = (false, eval e X.env) :: starEach es X.env := by rfl) (hpl : (backTo pos (starEach es X.env)).any (·.1) = false := by rfl) : Ev X W pu (.Call (.Name x p) (e :: es) [] pos) (opM f ms) := by
  obtain ⟨ts, g1, g2⟩ := h.ex
  exact ⟨_, pe_callB hc hg hm hv g1.pa hn hdb he hpl, opCore pr g2⟩
theorem ev_ty {n : String} {r : List V → Hp → VK → Prop} {f : List O → Option O} (hc : CallR X (.type n) r) (pr : PR X r f) (hm : X.mg x = none) (hv : bootBuiltins x = some (.type n)) (h : EvAs X W pu (e :: es) ms) (hg : Gl X x := by rfl)
    (hn : x ≠ "__name__" := by decide) (hdb : (x == ("__debug__" : Str)) = false := by decide) (he : starEach (e :: es) X.env = (false, eval e X.env) :: starEach es X.env := by rfl) (hpl : (backTo pos (starEach es X.env)).any (·.1) = false := by rfl) : Ev X W pu (.Call (.Name x p) (e :: es) [] pos) (opM f ms) := by
  obtain ⟨ts, g1, g2⟩ := h.ex
  exact ⟨_, pe_callTy hc hg hm hv g1.pa hn hdb he hpl, opCore pr g2⟩
/-- len -/
def lenB : O → Option Nat
  | .d (.str z) => if lenOk z.length = true then some z.length else none
  | .d (.list ds) => some ds.length
  | .d (.tuple ds) => some ds.length
  | .lst os => some os.length
  | .gL ds => some ds.length
  | .gT ds => some ds.length
  | _ => none
def lenF : List O → Option O
  | [a] => match lenB a with | some n => some (.d (.int (n : Nat))) | none => none
  | _ => none
theorem pr_len : PR X (fun xs H Q => ∃ x n, xs = [x] ∧ LenV X.K x H n ∧ Q (.int n) H) lenF := by
  intro xs os H Ex rs ws Q o hl r hf kk
  unfold lenF at hf
  split at hf
  · rename_i a
    obtain ⟨x, rfl⟩ := one hl
    obtain ⟨Hf, s, hw, cl⟩ := r.fr
    obtain ⟨_, h1⟩ := hw _ zipHead
    simp only at h1
    split at hf
    · rename_i n hn
      cases hf
      have fin := kk (.int n) _ (Same.refl _) (r.data fun _ => .int _)
      refine ⟨x, n, rfl, ?_, fin⟩
      unfold lenB at hn
      split at hn
      · rename_i z
        split at hn
        · rename_i hz
          cases hn
          obtain rfl := owS h1
          exact ⟨lenOk_le hz, rfl⟩
        · cases hn
      · cases hn
        cases h1 with
        | d h1 => cases h1 with | lst q t => exact .inl ⟨_, SqL.of (s _ _ q), (dpLen t).symm⟩
      · cases hn
        cases h1 with
        | d h1 =>
          obtain ⟨a, vs, e, q, t⟩ := dpTup h1
          cases e
          exact .inr ⟨_, sameT s.same q, (dpLen t).symm⟩
      · cases hn
        cases h1 with
        | lst q t => exact .inl ⟨_, SqL.of q, (owLLen t).symm⟩
      · cases hn
        cases h1 with
        | gL q t => exact .inl ⟨_, s.seq q, (dpLen t).symm⟩
      · cases hn
        cases h1 with
        | gT q t => exact .inr ⟨_, sameT s.same q, (dpLen t).symm⟩
      · cases hn
    · cases hf
  · cases hf
/-- min, max of two ints -/
def max2F : List O → Option O := i2F (fun _ _ => true) fun i j => .int (if j > i then j else i)
def min2F : List O → Option O := i2F (fun _ _ => true) fun i j => .int (if j < i then j else i)
theorem pr_fun2 {gv : Int → Int → V} {f : Int → Int → PyData} (hd : ∀ i j Hf, Dp X.K Hf (gv i j) (f i j)) : PR X (fun xs H Q => ∃ i j, xs = [.int i, .int j] ∧ Q (gv i j) H) (i2F (fun _ _ => true) f) := by
  intro xs os H Ex rs ws Q o hl r hf kk
  unfold i2F at hf
  split at hf
  · rename_i i j
    simp only [if_true] at hf
    cases hf
    obtain ⟨x, y, rfl⟩ := two hl
    obtain ⟨Hf, s, hw, cl⟩ := r.fr
    obtain ⟨_, h1⟩ := hw _ zipHead
    obtain ⟨_, h2⟩ := hw _ zipSnd
    obtain rfl := owI h1
    obtain rfl := owI h2
    exact ⟨i, j, rfl, kk _ _ (Same.refl _) (r.data (hd i j))⟩
  · cases hf
theorem pr_max2 : PR X (fun xs H Q => ∃ i j, xs = [.int i, .int j] ∧ Q (.int (if j > i then j else i)) H) max2F := pr_fun2 fun _ _ _ => .int _
theorem pr_min2 : PR X (fun xs H Q => ∃ i j, xs = [.int i, .int j] ∧ Q (.int (if j < i then j else i)) H) min2F := pr_fun2 fun _ _ _ => .int _
/-- sum of ints, all, any -/
def intsOf : List PyData → Option (List Int)
  | [] => some []
  | .int i :: r => match intsOf r with | some l => some (i :: l) | none => none
  | _ => none
def blsOf : List PyData → Option (List Bool)
  | [] => some []
  | .bool i :: r => match blsOf r with | some l => some (i :: l) | none => none
  | _ => none
def strsOf : List PyData → Option (List Str)
  | [] => some []
  | .str i :: r => match strsOf r with | some l => some (i :: l) | none => none
  | _ => none
theorem blsOf_ok {K : PySem.W.Frag} {Hf : Hp} : ∀ {ds : List PyData} {ns : List Bool} {vs : List V}, blsOf ds = some ns → DpAll K Hf vs ds → vs = ns.map V.bl
  | [], ns, _, h, .nil => by simp only [blsOf, Option.some.injEq] at h; subst h; rfl
  | d :: r, ns, _, h, .cons a t => by
    cases d with
    | bool i =>
      simp only [blsOf] at h
      cases q : blsOf r with
      | none => rw [q] at h; cases h
      | some l => rw [q] at h; cases h; cases a; rw [blsOf_ok q t]; rfl
    | _ => simp [blsOf] at h
theorem strsOf_ok {K : PySem.W.Frag} {Hf : Hp} : ∀ {ds : List PyData} {ns : List Str} {vs : List V}, strsOf ds = some ns → DpAll K Hf vs ds → vs = ns.map V.str
  | [], ns, _, h, .nil => by simp only [strsOf, Option.some.injEq] at h; subst h; rfl
  | d :: r, ns, _, h, .cons a t => by
    cases d with
    | str i =>
      simp only [strsOf] at h
      cases q : strsOf r with
      | none => rw [q] at h; cases h
      | some l => rw [q] at h; cases h; cases a; rw [strsOf_ok q t]; rfl
    | _ => simp [strsOf] at h
def allF : List O → Option O
  | [a] => match (match asL a with | some ds => blsOf ds | none => none) with | some ns => some (.d (.bool (ns.all id))) | none => none
  | _ => none
theorem pr_all : PR X (rAll X.K) allF := by
  intro xs os H Ex rs ws Q o hl r hf kk
  unfold allF at hf
  split at hf
  · obtain ⟨x, rfl⟩ := one hl
    obtain ⟨Hf, s, hw, cl⟩ := r.fr
    obtain ⟨_, h1⟩ := hw _ zipHead
    split at hf
    · rename_i ns e0
      cases hf
      split at e0
      · rename_i ds e1
        obtain ⟨ad, vs, e3, sq, pp⟩ := owL s h1 e1
        simp only at e3
        subst e3
        obtain rfl := blsOf_ok e0 pp
        exact ⟨ad, ns, rfl, sq, kk _ _ (Same.refl _) (r.data fun _ => .bl _)⟩
      · cases e0
    · cases hf
  · cases hf
/-- int of an int, of a truth -/
def intF : List O → Option O
  | [.d (.int i)] => some (.d (.int i))
  | [.d (.bool k)] => some (.d (.int (if k then 1 else 0)))
  | _ => none
theorem pr_int : PR X (fun xs H Q => (∃ i, xs = [.int i] ∧ Q (.int i) H) ∨ ∃ k, xs = [.bl k] ∧ Q (.int (if k then 1 else 0)) H) intF := by
  intro xs os H Ex rs ws Q o hl r hf kk
  unfold intF at hf
  split at hf
  · rename_i i
    cases hf
    obtain ⟨x, rfl⟩ := one hl
    obtain ⟨Hf, s, hw, cl⟩ := r.fr
    obtain ⟨_, h1⟩ := hw _ zipHead
    obtain rfl := owI h1
    exact .inl ⟨i, rfl, kk _ _ (Same.refl _) (r.data fun _ => .int _)⟩
  · rename_i i
    cases hf
    obtain ⟨x, rfl⟩ := one hl
    obtain ⟨Hf, s, hw, cl⟩ := r.fr
    obtain ⟨_, h1⟩ := hw _ zipHead
    obtain rfl := owB h1
    exact .inr ⟨i, rfl, kk _ _ (Same.refl _) (r.data fun _ => .int _)⟩
  · cases hf
/-- tuple(..), list(..) of data in a row -/
def tupF : List O → Option O
  | [a] => match asL a with
    | some ds => some (.d (.tuple ds))
    | none => match asT a with | some ds => some (.d (.tuple ds)) | none => none
  | _ => none
def lstF : List O → Option O
  | [a] => match asLT a with | some ds => some (.lst (ds.map O.d)) | none => none
  | _ => none
theorem pr_tup : PR X (fun xs H Q => ∃ p ys, xs = [.ref p] ∧ ((SqL X.K H p ys ∧ TupP H ys Q) ∨ (SqT X.K H p ys ∧ Q (.ref p) H))) tupF := by
  intro xs os H Ex rs ws Q o hl r hf kk
  unfold tupF at hf
  split at hf
  · obtain ⟨x, rfl⟩ := one hl
    obtain ⟨Hf, s, hw, cl⟩ := r.fr
    obtain ⟨_, h1⟩ := hw _ zipHead
    split at hf
    · rename_i ds e1
      cases hf
      obtain ⟨ad, vs, e3, sq, pp⟩ := owL s h1 e1
      simp only at e3
      subst e3
      exact ⟨ad, vs, rfl, .inl ⟨sq, (cl _ _ pp).mkTupl (dpLen pp) fun v H' s' r' => kk v H' s' r'⟩⟩
    · split at hf
      · rename_i ds e1
        cases hf
        have hD := owTD h1 e1
        obtain ⟨ad, vs, e3, sq, pp⟩ := owT s h1 e1
        simp only at e3
        subst e3
        exact ⟨ad, vs, rfl, .inr ⟨sq, kk _ _ (Same.refl _) (cl [_] [_] (.cons hD .nil))⟩⟩
      · cases hf
  · cases hf
theorem pr_lst : PR X (fun xs H Q => ∃ p ys, xs = [.ref p] ∧ (SqL X.K H p ys ∨ SqT X.K H p ys) ∧ ∀ l, H l = none → Q (.ref l) (upd H l (.lst ys))) lstF := by
  intro xs os H Ex rs ws Q o hl r hf kk
  unfold lstF at hf
  split at hf
  · obtain ⟨x, rfl⟩ := one hl
    obtain ⟨Hf, s, hw, cl⟩ := r.fr
    obtain ⟨_, h1⟩ := hw _ zipHead
    split at hf
    · rename_i ds e1
      cases hf
      obtain ⟨ad, vs, e3, sq, pp⟩ := owLTseq s h1 e1
      simp only at e3
      subst e3
      exact ⟨ad, vs, rfl, sq, fun q hq => kk _ _ (sameNew hq _) ((cl _ _ pp).mkLst (dpLen pp) hq)⟩
    · cases hf
  · cases hf
def tyN : O → String
  | .d .none => "NoneType"
  | .d (.bool _) => "bool"
  | .d (.int _) => "int"
  | .d (.str _) => "str"
  | .d (.list _) => "list"
  | .d (.tuple _) => "tuple"
  | .lst _ => "list"
  | .dK _ => "dict"
  | .dT _ => "dict"
  | _ => ""
def isiM (n : String) (m : M O) : M O := M.bd m fun o g => if tyN o = "" then .bad else match kitB (tyN o) n with
  | some k => .ok (.d (.bool k)) g
  | none => .bad
theorem tyX_of {K : PySem.W.Frag} {mg : Str → Option Value} {Hf : Fz} {v : V} {o : O} {as : List Addr} (s : Hf.on K H) (h : Ow K mg Hf H v o as) (hn : tyN o ≠ "") : TyX K H v (.type (tyN o)) := by
  cases h with
  | d h =>
    cases h with
    | non => exact .base .non
    | bl b => exact .base (.bl b)
    | int i => exact .base (.int i)
    | str z => exact .base (.str z)
    | lst q t => exact .base (.lst (s _ _ q))
    | tup q _ t => exact .base (.tup (s _ _ q))
    | ftup q _ _ t => exact .fTuple (s _ _ q)
    | ktup q _ c _ t => exact .kTuple q c.1
  | lst q t => exact .base (.lst q)
  | dK q _ t => exact .base (.dK q)
  | dT q _ t => exact .base (.dT q)
  | _ => exact absurd rfl hn
theorem ev_isi {n : Str} {nt : String} (hP : EvP X W pu a m) (hm : X.mg "isinstance" = none) (hv : bootBuiltins "isinstance" = some (.builtin "isinstance")) (hmn : X.mg n = none) (hvn : bootBuiltins n = some (.type nt)) (hg : Gl X "isinstance" := by rfl) (hgn : Gl X n := by rfl) (hnn : n ≠ "__name__" := by decide) (hnd : (n == ("__debug__" : Str)) = false := by decide)
    (he : starEach [a, .Name n p2] X.env = (false, eval a X.env) :: starEach [.Name n p2] X.env := by rfl) (he2 : starEach [.Name n p2] X.env = (false, eval (.Name n p2) X.env) :: starEach [] X.env := by rfl) (hpl : (backTo pos (starEach [.Name n p2] X.env)).any (·.1) = false := by rfl) :
    Ev X W pu (.Call (.Name "isinstance" p) [a, .Name n p2] [] pos) (isiM nt m) := by
  obtain ⟨t, h1, h2⟩ := hP.ex
  have pt : PE X (.Name n p2) (tC (.ty nt)) := pe_bltn hgn hmn hvn rfl hnn hnd
  refine ⟨_, pe_callB call_isi hg hm hv (pa_cons h1 (pa_cons pt pa_nil he2) he) (by decide) (by decide) he hpl, fun σ H Q g T Ex ws a w => h2 σ H _ g T Ex ws a (w.bd.imp (fun o g' kk v H' s a' => ?_) fun _ _ kk => kk)⟩
  obtain ⟨Hf, sm, hw, cl⟩ := a'.rel.fr
  obtain ⟨_, h1⟩ := hw _ List.mem_cons_self
  simp only at h1
  split at kk
  · exact kk.elim
  · rename_i hN
    cases q : kitB (tyN o) nt with
    | none => rw [q] at kk; exact kk.elim
    | some b =>
      rw [q] at kk
      refine ⟨v, .ty nt, _, .type nt, b, rfl, .ty nt, tyX_of sm h1 hN, kit_ty q, ?_⟩
      exact kk _ H' s ((a'.data fun _ => .bl _).views fun p m => List.mem_cons_of_mem _ m)
end
end Z
namespace Z
open PySem PySem.Spec L2
section
variable {X : Cx} {W : WX} {pu pv pw : Bool} {H H' : Hp} {Ex : List (Addr × HO)} {σ σ' : L2.St} {g : Gs} {T T' ws ws' rs : Roots} {e a b o lo hi : Expr} {es : List Expr} {m : M O} {ms : M (List O)} {pos p p2 apos : Pos} {k j np : Nat} {x : Str}
def asS : O → M Str := fun o g => match o with
  | .d (.str b) => .ok b g
  | _ => .bad
theorem wpS {o : O} {g : Gs} {A : Str → Gs → Prop} {B : Exn → Gs → Prop} (h : Wp (asS o g) A B) : ∃ b, o = .d (.str b) ∧ A b g := by
  unfold asS at h
  split at h
  · exact ⟨_, rfl, h⟩
  · exact h.elim
theorem Rel.isS {K : PySem.W.Frag} {mg : Str → Option Value} {v : V} {i : Str} (r : Rel K mg H Ex ((v, .d (.str i)) :: rs) ws) : v = .str i := by
  obtain ⟨Hf, s, h, _⟩ := r.headDp
  cases h; rfl
def joinB (s : Str) (o : O) : Option O := match (match asLT o with | some ds => strsOf ds | none => none) with
  | some ys => if lenOk ((ys.map (·.length)).sum + ys.length * s.length) = true then some (.d (.str (Txt.join s ys))) else none
  | none => none
def joinM (mo ma : M O) : M O := M.bd mo fun o => M.bd (asS o) fun s => M.bd ma fun x => optM (joinB s x)
theorem ev_join {ma : M O} (ho : Ev X W pu o m) (ha : EvP X W pv a ma) (hs : starEach [a] X.env = [(false, eval a X.env)] := by rfl) (hbase : attributeBase o "join" X.env (eval o X.env) = eval o X.env := by rfl) (hline : (apos.endLine == pos.line) = true := by rfl) :
    Ev X W (pu && pv) (.Call (.Attribute o "join" apos) [a] [] pos) (joinM m ma) := by
  obtain ⟨to, o1, o2⟩ := ho.ex
  obtain ⟨ta, a1, a2⟩ := ha.ex
  refine ⟨_, pe_join o1 a1 hs hbase hline, fun σ H Q g T Ex ws a w => ?_⟩
  refine o2 σ H _ g T Ex ws a (w.bd.imp (fun o g1 kk v H1 s1 b1 => ?_) fun _ _ kk => kk)
  obtain ⟨z, rfl, k1⟩ := wpS kk.bd
  obtain rfl := b1.top.isS
  refine ⟨⟨z, rfl⟩, ?_⟩
  refine a2 σ H1 _ g1 _ Ex _ b1.drop (k1.bd.imp (fun ox g2 kk u H2 s2 b2 => ?_) fun x g2 kk H' cls d a2 e => kk H' cls d a2 e)
  obtain ⟨r, hr, k2⟩ := wpOpt kk
  unfold joinB at hr
  split at hr
  · rename_i ys e0
    split at hr
    · rename_i hl
      cases hr
      split at e0
      · rename_i ds e1
        obtain ⟨Hf, sm, hw, cl⟩ := b2.rel.fr
        obtain ⟨_, h1⟩ := hw _ List.mem_cons_self
        obtain ⟨ad, vs, e3, sq, pp⟩ := owLTseq sm h1 e1
        simp only at e3
        subst e3
        obtain rfl := strsOf_ok e0 pp
        refine ⟨z, ad, ys, rfl, rfl, sq, of_decide_eq_true hl, k2 _ H2 (purTr s1 s2) ((b2.data fun _ => .str _).views fun p m => List.mem_cons_of_mem _ (by rw [vsVs]; exact m))⟩
      · cases e0
    · cases hr
  · cases hr
def upM (mo : M O) : M O := M.bd mo fun o => M.bd (asS o) fun s => gdM (decide (s.length ≤ 5592405)) (M.ret (.d (.str (Txt.upper s))))
def appM (i : Nat) (m : M O) : M O := M.bd m fun o g => match g[i]? with
  | some (some (.lst os)) => if os.length < 16777216 then .ok (.d .none) (g.set i (some (.lst (os ++ [o])))) else .bad
  | _ => .bad
def appLM (i : Nat) (m : M O) : M O := fun g => match g[i]? with
  | some (some (.lst _)) => appM i m g
  | _ => .bad
theorem At.appendAt {i : Nat} {os : List O} {o : O} {v y : V} (a : At X H Ex σ g ((y, o) :: T) ws) (hg : g[i]? = some (some (.lst os))) (hv : σ[i]? = some (some v)) : ∃ ad vs, v = .ref ad ∧ H ad = some (.lst vs) ∧ vs.length = os.length ∧
    At X (upd H ad (.lst (vs ++ [y]))) Ex σ (g.set i (some (.lst (os ++ [o])))) T [] := by
  have r := (a.get hg hv).noviews
  obtain ⟨ad, ho, vs, os1, e1, e2, p, hl, r2⟩ := r.opn rfl
  cases p
  refine ⟨ad, vs, e1, e2, hl, ?_⟩
  subst e1
  refine .put a.fit hv (((r2.write (.lst (vs ++ [y]))).perm ?_).shut (.lst (os := os ++ [o])) (by simp [hl]))
  rw [List.zip_append hl]
  simp only [List.zip_cons_cons, List.zip_nil_right, List.append_assoc, List.cons_append, List.nil_append]
  refine List.Perm.append_left _ ?_
  exact List.perm_middle
theorem permErase {α : Type} : ∀ {l : List α} {j : Nat} (h : j < l.length), (l[j] :: l.eraseIdx j).Perm l
  | a :: l, 0, _ => .refl _
  | a :: l, j + 1, h => by
    simp only [List.getElem_cons_succ, List.eraseIdx_cons_succ]
    exact (List.Perm.swap _ _ _).trans (.cons _ (permErase (l := l) (j := j) (by simpa using h)))
theorem permSet {α : Type} (x : α) : ∀ {l : List α} {j : Nat} (h : j < l.length), (l.set j x).Perm (x :: l.eraseIdx j)
  | a :: l, 0, _ => .refl _
  | a :: l, j + 1, h => by
    simp only [List.set_cons_succ, List.eraseIdx_cons_succ]
    exact (List.Perm.cons _ (permSet x (l := l) (j := j) (by simpa using h))).trans (.swap _ _ _)
theorem zipSet : ∀ {vs : List V} {os : List O} {j : Nat} {y : V} {o : O}, (vs.set j y).zip (os.set j o) = (vs.zip os).set j (y, o)
  | [], _, _, _, _ => by simp
  | _ :: _, [], j, _, _ => by cases j <;> simp
  | v :: vs, q :: os, 0, _, _ => by simp
  | v :: vs, q :: os, j + 1, y, o => by simp [zipSet (vs := vs) (os := os) (j := j) (y := y) (o := o)]
theorem At.setIx {i j : Nat} {os : List O} {o : O} {v y : V} (a : At X H Ex σ g ((y, o) :: T) ws) (hg : g[i]? = some (some (.lst os))) (hv : σ[i]? = some (some v)) (hj : j < os.length) : ∃ ad vs, v = .ref ad ∧ H ad = some (.lst vs) ∧ vs.length = os.length ∧
    At X (upd H ad (.lst (vs.set j y))) Ex σ (g.set i (some (.lst (os.set j o)))) T [] := by
  have r := (a.get hg hv).noviews
  obtain ⟨ad, ho, vs, os1, e1, e2, p, hl, r2⟩ := r.opn rfl
  cases p
  refine ⟨ad, vs, e1, e2, hl, ?_⟩
  subst e1
  refine .put a.fit hv (Rel.shut (vs := vs.set j y) (os := os.set j o) ?_ (.lst (os := os.set j o)) (by simp [hl]))
  have hjz : j < (vs.zip os).length := by rw [List.length_zip]; omega
  have p1 : (vs.zip os).Perm ((vs.zip os)[j] :: (vs.zip os).eraseIdx j) := (permErase hjz).symm
  have p2 : ((vs.zip os).set j (y, o)).Perm ((y, o) :: (vs.zip os).eraseIdx j) := permSet _ hjz
  rw [zipSet]
  have r3 := (r2.perm (p1.append_right _)).drop
  refine (r3.write (.lst (vs.set j y))).perm ?_
  refine List.Perm.trans ?_ (p2.symm.append_right _)
  refine ((List.perm_middle.append_left _).trans List.perm_middle)
theorem ev_app (i : Nat) {xn : Str} {ap pp : Pos} (h : Ev X W pu a m) (hN : X.N[i]? = some xn := by rfl) (hv : Vis X.env.scope xn := by first | exact Or.inl rfl | exact Or.inr (Or.inl rfl) | exact Or.inr (Or.inr rfl)) (hdd1 : (xn == ("__debug__" : Str)) = false := by decide) (hcd : (xn == ("__classdict__" : Str)) = false := by decide)
    (hbase : attributeBase (.Name xn pp) "append" X.env (eval (.Name xn pp) X.env) = eval (.Name xn pp) X.env := by rfl)
    (hfew : ((backTo pos (starEach [a] X.env)).all (fun x => !x.1) && (backToKw pos (keywordEach [] X.env)).all (fun x => x.1.isSome)
      && decide ([a].length + ([] : List Keyword).length + (if ([] : List Keyword).isEmpty then 0 else 1) < 30)) = true := by rfl)
    (hline : (ap.endLine == pos.line) = true := by rfl) (hst : starEach [a] X.env = (false, eval a X.env) :: starEach [] X.env := by rfl) (hplain : (backTo pos (starEach [] X.env)).any (·.1) = false := by rfl) :
    Ev X W false (.Call (.Attribute (.Name xn pp) "append" ap) [a] [] pos) (appLM i m) := by
  obtain ⟨t, h1, h2⟩ := h.ex
  refine ⟨_, pe_bm PySem.F.plainAttrs_list PySem.F.slot_list_append PySem.F.type_list_append mt_append (pv i hN hv hdd1 hcd) (pa_cons h1 pa_nil hst) hbase hfew hline hst hplain, fun σ H Q g T Ex ws at0 w => ?_⟩
  unfold appLM at w
  split at w
  · rename_i os0 hg0
    obtain ⟨v, hv⟩ := at0.fit.at_ _ _ hg0
    have r0 := (at0.get hg0 hv).noviews
    obtain ⟨ad0, ho0, vs0, os1, e1, e2, p, hl, r2⟩ := r0.opn rfl
    cases p
    subst e1
    refine ⟨_, hv, .inl ⟨rfl, _, SqL.of e2⟩, ?_⟩
    refine h2 σ H _ g T Ex ws at0 (w.bd.imp (fun o g' kk y H' s a' => ?_) fun _ _ kk => kk)
    split at kk
    · rename_i os hg
      split at kk
      · rename_i hlen
        obtain ⟨ad, vs, e3, e4, hl', a3⟩ := a'.appendAt hg hv
        cases e3
        refine ⟨ad0, vs, y, rfl, rfl, e4, by rw [hl', sizeLine_eq]; exact hlen, ?_⟩
        exact kk _ _ (fun z => by cases z) (a3.data fun _ => .non)
      · exact kk.elim
    · exact kk.elim
  · exact w.elim
def ixSet1 (i : Nat) (mi : M O) (o : O) : M Unit := M.bd mi fun oi => M.bd (asI oi) fun k g => match g[i]? with
  | some (some (.lst os)) => match ixN os.length k with
    | some j => .ok () (g.set i (some (.lst (os.set j o))))
    | none => .bad
  | _ => .bad
def ixSetM (i : Nat) (mi : M O) (o : O) : M Unit := fun g => match g[i]? with
  | some (some _) => ixSet1 i mi o g
  | _ => .bad
theorem ixNlt {n : Nat} {i : Int} {j : Nat} (h : ixN n i = some j) : j < n := (ixN_seq h).2.1
theorem eg_ix (i : Nat) {xn : Str} {pp : Pos} (h : Ev X W pu b m) (hN : X.N[i]? = some xn := by rfl) (hv : Vis X.env.scope xn := by first | exact Or.inl rfl | exact Or.inr (Or.inl rfl) | exact Or.inr (Or.inr rfl)) (hdd1 : (xn == ("__debug__" : Str)) = false := by decide) (hcd : (xn == ("__classdict__" : Str)) = false := by decide)
    (ha : ∀ v, assign (.Subscript (.Name xn pp) b pos) X.env v = (do
      let ov ← holding [v] (eval (.Name xn pp) X.env)
      let iv ← holding [v, ov] (eval b X.env)
      standAt pos
      holding [v, ov, iv] (setItem ov iv v)
      release [v, ov, iv] []) := by intro _; rfl) : EvG X W np (.Subscript (.Name xn pp) b pos) (ixSetM i m) := by
  obtain ⟨t, h1, h2⟩ := h.ex
  refine ⟨_, pg_sub (pv i hN hv hdd1 hcd) h1 set_list ha, fun σ H Q g T Ex v o at0 w => ?_⟩
  unfold ixSetM at w
  split at w
  · rename_i o0 hg0
    obtain ⟨u, hu⟩ := at0.fit.at_ _ _ hg0
    refine ⟨u, hu, ?_⟩
    refine h2 σ H _ g _ Ex [] at0 (w.bd.imp (fun oi g' kk y H' s a' => ?_) fun x g' kk H' cls d a2 e => kk σ H' cls d .refl a2.drop e)
    obtain ⟨ki, rfl, k2⟩ := wpI kk.bd
    obtain rfl := a'.top.isI
    split at k2
    · rename_i os hg
      split at k2
      · rename_i jj hj
        obtain ⟨ad, vs, e3, e4, hl', a3⟩ := a'.drop.setIx hg hu (ixNlt hj)
        subst e3
        exact ⟨ad, vs, ki, jj, rfl, rfl, e4, by rw [hl']; exact hj, k2 σ _ .refl a3⟩
      · exact k2.elim
    · exact k2.elim
  · exact w.elim
end
end Z
namespace Z
open PySem PySem.Spec L2
theorem boot_len_ : bootBuiltins "len" = some (.builtin "len") := by decide +kernel
theorem boot_all_ : bootBuiltins "all" = some (.builtin "all") := by decide +kernel
theorem boot_max_ : bootBuiltins "max" = some (.builtin "max") := by decide +kernel
theorem boot_min_ : bootBuiltins "min" = some (.builtin "min") := by decide +kernel
theorem boot_isi_ : bootBuiltins "isinstance" = some (.builtin "isinstance") := by decide +kernel
theorem boot_int_ : bootBuiltins "int" = some (.type "int") := by decide +kernel
theorem boot_tuple_ : bootBuiltins "tuple" = some (.type "tuple") := by decide +kernel
theorem boot_list_ : bootBuiltins "list" = some (.type "list") := by decide +kernel
theorem boot_ty_bool : bootBuiltins "bool" = some (.type "bool") := by decide +kernel
theorem cg_nil : ∀ (ds : List PyData) (g : Gs), ds.length ≠ 0 → nilG ds g = .bad
  | [], _, h => (h rfl).elim
  | _ :: _, _, _ => rfl
theorem cg_cons {i n : Nat} {f : List PyData → M Unit} (h : ∀ (ds : List PyData) (g : Gs), ds.length ≠ n → f ds g = .bad) : ∀ (ds : List PyData) (g : Gs), ds.length ≠ n + 1 → consG i f ds g = .bad := by
  intro ds g hn
  cases ds with
  | nil => rfl
  | cons d r =>
    have e : ∀ g, f r g = .bad := fun g => h r g (by simpa using hn)
    simp only [consG, M.bd, setM]
    first | exact e _ | (repeat' split; all_goals simp_all)
/-- a def that is not looked into: of it nothing is said -/
theorem fnBad {P : Program} {w : World} {K : PySem.W.Frag} {mg : Str → Option Value} {base : Heap} {k : Nat} {a : Addr} {fd : FuncData} {ps : List Str} {np : Nat} (hl : ps.length = np) : FnG P w K mg base (L2.CX P w) k a fd ps (spF K mg np fun _ => .bad) :=
  ⟨fun vs H Q E h => h.1.trans hl.symm, fun A outer s H args us vs Q E _ _ _ _ h => by
    obtain ⟨_, os, Ex, T, _, _, f⟩ := h
    exact f.elim⟩
end Z
namespace Z
open PySem PySem.Spec L2
/-- a def of the module as it stands behind the top -/
structure DefAt (K : PySem.W.Frag) (mg : Str → Option Value) (x : Str) (st : Stmt) : Prop where
  ex : ∃ (a : Addr) (fd : FuncData), mg x = some (.ref a) ∧ Fun K x x st a fd
theorem defAt {K : PySem.W.Frag} {mg : Str → Option Value} {h : Heap} {x : Str} {st : Stmt} {f : Addr} {oc : Value} {od an : Option Addr} {osl : Array (Option Value)} {kV doc pm cdv ct : Value} (X : K.In h) (G : h.Ns mainGlobals mg)
    (a : PySem.W.nsIn K mainGlobals x = some (some (.ref f))) (l : K.lookup f = some ⟨oc, od, .func (PySem.W.fnOf x x (defArgs st) (defBody st) (defScope st) .none kV doc pm an cdv ct), osl⟩) (c : PySem.W.codeIn K cdv x = true) (k : PySem.W.keepIn K (.ref f) = true) : DefAt K mg x st :=
  ⟨_, _, PySem.W.mg_of X G a, fun_mk l c k⟩
theorem gl_str {K : PySem.W.Frag} {mg : Str → Option Value} {h : Heap} {x s : Str} {t : Tok} (X : K.In h) (G : h.Ns mainGlobals mg) (a : PySem.W.nsIn K mainGlobals x = some (some (.str s t))) (hdb : (x == ("__debug__" : Str)) = false := by decide) :
    ∀ (X : Cx) (W : WX) (pos : Pos), X.K = K → X.mg = mg → Gl X x → Ev X W true (.Name x pos) (dM (.str s)) := by
  intro X W pos e1 e2 hg
  exact ev_glob hg (v := .str s) (by rw [e2]; exact PySem.W.mg_of ‹K.In h› G a) ⟨t, rfl⟩ (fun _ => .str s) hdb
theorem gl_int {K : PySem.W.Frag} {mg : Str → Option Value} {h : Heap} {x : Str} {i : Int} {t : Tok} (X : K.In h) (G : h.Ns mainGlobals mg) (a : PySem.W.nsIn K mainGlobals x = some (some (.int i t))) (hdb : (x == ("__debug__" : Str)) = false := by decide) :
    ∀ (X : Cx) (W : WX) (pos : Pos), X.K = K → X.mg = mg → Gl X x → Ev X W true (.Name x pos) (dM (.int i)) := by
  intro X W pos e1 e2 hg
  exact ev_glob hg (v := .int i) (by rw [e2]; exact PySem.W.mg_of ‹K.In h› G a) ⟨t, rfl⟩ (fun _ => .int i) hdb
def flat1 : Value → Option (V × PyData)
  | .none => some (.non, .none)
  | .bool b => some (.bl b, .bool b)
  | .int i _ => some (.int i, .int i)
  | .str s _ => some (.str s, .str s)
  | _ => none
def flatAll : List Value → Option (List PyData)
  | [] => some []
  | u :: r => match flat1 u, flatAll r with
    | some p, some ds => some (p.2 :: ds)
    | _, _ => none
theorem flat1_ok {K : PySem.W.Frag} {u : Value} {p : V × PyData} (h : flat1 u = some p) : RelV p.1 u ∧ ∀ H, Dp K H p.1 p.2 := by
  cases u <;> simp only [flat1, Option.some.injEq] at h
  all_goals first
    | (cases h; done)
    | (subst h; exact ⟨rfl, fun _ => .non⟩)
    | (subst h; exact ⟨rfl, fun _ => .bl _⟩)
    | (subst h; exact ⟨⟨_, rfl⟩, fun _ => .int _⟩)
    | (subst h; exact ⟨⟨_, rfl⟩, fun _ => .str _⟩)
theorem flatAll_ok {K : PySem.W.Frag} : ∀ {us : List Value} {ds : List PyData}, flatAll us = some ds → ∃ xs, Vals xs us ∧ ∀ H, DpAll K H xs ds
  | [], ds, h => by
    simp only [flatAll, Option.some.injEq] at h
    subst h
    exact ⟨[], .nil, fun _ => .nil⟩
  | u :: r, ds, h => by
    simp only [flatAll] at h
    split at h
    · rename_i p ds' e1 e2
      cases h
      obtain ⟨xs, v, d⟩ := flatAll_ok (K := K) e2
      obtain ⟨r1, d1⟩ := flat1_ok (K := K) e1
      exact ⟨p.1 :: xs, .cons r1 v, fun H => .cons (d1 H) (d H)⟩
    · cases h
theorem ev_globT {X : Cx} {W : WX} {pos : Pos} {x : Str} {a : Addr} {xs : List V} {ds : List PyData} (hg : Gl X x) (hm : X.mg x = some (.ref a)) (hs : ∀ Hf, SqT X.K Hf a xs) (hd : ∀ Hf, DpAll X.K Hf xs ds) (hdb : (x == ("__debug__" : Str)) = false := by decide) : Ev X W true (.Name x pos) (M.ret (.gT ds)) :=
  ⟨_, pe_glob hg hm (v := .ref a) rfl hdb, fun σ H Q g T Ex ws a w => w _ H (fun _ => ⟨rfl, Same.refl _⟩) (by
    refine .ofTop a.fit ?_
    obtain ⟨Hf, as, s, h1, h2, h3, h4, h5⟩ := a.rel.ex
    exact ⟨Hf, as, s, h1, .cons (.gT (hs Hf.h) (hd Hf.h)) h2, h3, h4, h5⟩)⟩
theorem gl_tup {K : PySem.W.Frag} {mg : Str → Option Value} {h : Heap} {x : Str} {f : Addr} {od : Option Addr} {its : Array Value} {n : Nat} {osl : Array (Option Value)} {ds : List PyData} (X : K.In h) (G : h.Ns mainGlobals mg)
    (a : PySem.W.nsIn K mainGlobals x = some (some (.ref f))) (l : K.lookup f = some ⟨.type "tuple", od, .seq its n, osl⟩) (hz : its.size ≤ sizeLine) (e : flatAll its.toList = some ds) (hdb : (x == ("__debug__" : Str)) = false := by decide) :
    ∀ (X : Cx) (W : WX) (pos : Pos), X.K = K → X.mg = mg → Gl X x → Ev X W true (.Name x pos) (M.ret (.gT ds)) := by
  intro Y W pos e1 e2 hg
  subst e1
  obtain ⟨xs, v, d⟩ := flatAll_ok (K := Y.K) e
  exact ev_globT hg (by rw [e2]; exact PySem.W.mg_of X G a) (fun Hf => .inr ⟨_, its, n, l, rfl, rfl, hz, v⟩) d hdb
def trueF (f : Fn) (ns : List Int) : Prop := FW (f [.gL (ns.map PyData.int)]) (fun r ps => r = .d (.bool true) ∧ ps.length = 1) (fun _ => False)
def spLaw (K : PySem.W.Frag) (f : Fn) : Sp := fun vs H Q E => ∃ (a : Addr) (ns : List Int), vs = [.ref a] ∧ SqL K H a (ns.map V.int) ∧ trueF f ns ∧ ∀ H', Q (.bl true) H'
theorem dpInts {K : PySem.W.Frag} {H : Hp} : ∀ (ns : List Int), DpAll K H (ns.map V.int) (ns.map PyData.int)
  | [] => .nil
  | n :: r => .cons (.int n) (dpInts r)
theorem lawSp {P : Program} {w : World} {K : PySem.W.Frag} {mg : Str → Option Value} {base : Heap} {k : Nat} {a : Addr} {fd : FuncData} {x : Str} {f : Fn} (F : FnG P w K mg base (L2.CX P w) k a fd [x] (spF K mg 1 f)) :
    FnG P w K mg base (L2.CX P w) k a fd [x] (spLaw K f) := by
  refine F.imp fun vs H Q E h => ?_
  obtain ⟨b, ns, rfl, hS, e, hQ⟩ := h
  refine ⟨rfl, [.gL (ns.map PyData.int)], [], [], rfl, ⟨⟨H, fun _ => none⟩, [], ⟨Same.refl _, by simp⟩, by simp, ?_, by simp, by simp, by simp⟩, ?_⟩
  · exact .cons (as := []) (bs := []) (.gL hS (dpInts ns)) .nil
  · refine FW.imp e (fun r ps z => ?_) (fun x z => z.elim)
    obtain ⟨rfl, hl⟩ := z
    refine ⟨hl, fun v H' r => ?_⟩
    obtain ⟨Hf, s, d, _⟩ := r.headDp
    cases d
    exact hQ H'
open PyProof.Rows in
/-- the law's call where no repr is under way -/
theorem lawG {P : Program} {w : World} {K : PySem.W.Frag} {mg mb : Str → Option Value} {CX : CXT} {k : Nat} {fa a : Addr} {fd : FuncData} {x : Str} {sp : Sp} {s₁ : Shared} {vs : List Value} {ns : List Int}
    (KX : K.In s₁.heap) (g1 : s₁.heap.Ns mainGlobals mg) (g2 : s₁.heap.Ns builtinsNs mb) (g3 : ∀ x : Str, x ≠ "__name__" → mb x = bootBuiltins x) (g4 : s₁.heap.NoLimit) (g5 : s₁.gens = #[])
    (ha : s₁.heap.get? a = some { cls := .type "list", data := .seq vs.toArray }) (hi : IntsAre vs ns) (hl : ns.length ≤ sizeLine) (hr : RoomG k callerA)
    (F : ∀ base : Heap, K.In base → base.Ns mainGlobals mg → FnG P w K mg base CX k fa fd [x] sp) (hb : ∀ (s : Shared) (u : Value), BindsTo s fd ⟨[u], []⟩ [(x, u)])
    (hsp : ∀ H : Hp, Only H → SqL K H a (ns.map V.int) → sp [.ref a] H (fun v _ => v = .bl true) fun _ _ _ => False) (hX : ∀ H e s', CX [] H s₁ (fun _ _ _ => False) e s' → False) :
    codeAny (model P w) callerA (.call (.ref fa) ⟨[.ref a], []⟩) (fun r s' => r = .ok (.ret (.bool true)) ∧ OldK s₁.heap s'.heap ∧ s'.os = s₁.os ∧ AllBare s'.gens) s₁ := by
  have rv := vals_ints hi
  -- H tracks nothing, or the script alone
  have by_ : ∀ H : Hp, Only H → SqL K H a (ns.map V.int) → HOk P w H s₁.heap → (∀ b, b ≠ a → H b = none) → (K.lookup a = none ∨ H a = none) →
      codeAny (model P w) callerA (.call (.ref fa) ⟨[.ref a], []⟩) (fun r s' => r = .ok (.ret (.bool true)) ∧ OldK s₁.heap s'.heap ∧ s'.os = s₁.os ∧ AllBare s'.gens) s₁ := by
    intro H hO hS hok hA hK
    have keep : ∀ {b : Addr} {o : Obj}, s₁.heap.get? b = some o → (b = a → H a = none) → (hidT s₁.heap H).get? b = some o := fun {b o} e n => hidT_get e (by
      by_cases z : b = a
      · rw [z]; exact n z
      · exact hA b z)
    have nsK : ∀ {b : Addr} {m : Str → Option Value}, s₁.heap.Ns b m → (hidT s₁.heap H).Ns b m := by
      intro b m h
      obtain ⟨o, es, ep, e, d, r⟩ := h
      refine ⟨o, es, ep, keep e fun z => ?_, d, r⟩
      rw [z, ha] at e
      cases e
      cases d
    have kin : K.In (hidT s₁.heap H) := fun b o e => keep (KX b o e) fun z => by
      rcases hK with hK | hK
      · rw [z, hK] at e; cases e
      · exact hK
    have md : Mod K mg (hidT s₁.heap H) := by
      obtain ⟨mc, h1, h2⟩ := g4
      exact ⟨kin, nsK g1, ⟨mb, nsK g2, g3⟩, mc, nsK h1, h2⟩
    have e0 : Env0 P w K mg (hidT s₁.heap H) callerA [] s₁ H := ⟨rfl, md, fun b o e => of_hidT e, Nat.le_of_eq (hidT_size _ _), trivial, (fun b hb => by cases hb), hok, .of_eq g5⟩
    have run := (F _ kin (nsK g1)).run callerA [] s₁ H ⟨[.ref a], []⟩ [.ref a] [.ref a] _ _ hr e0 (hb s₁ (.ref a)) (.cons rfl .nil) (hsp H hO hS)
    refine codeAny_mono run fun r s' h => ?_
    match r, h with
    | .error e, h => exact (hX H e s' h).elim
    | .ok .next, h => exact False.elim h
    | .ok .brk, h => exact False.elim h
    | .ok .cont, h => exact False.elim h
    | .ok (.ret u), h =>
      obtain ⟨v, H', os, bare, un, hok', r1, q⟩ := h
      have q : v = .bl true := q
      subst q
      obtain rfl : u = Value.bool true := r1
      refine ⟨rfl, OldK.of_keep fun b o e => ?_, os, bare⟩
      rcases hO b with z | ⟨ob, xs, z⟩
      · exact un.keep b o e z (fun m => by cases m) (fun m => by cases m)
      · obtain ⟨e1, _⟩ := hok b _ z
        obtain ⟨e2, _⟩ := hok' b _ (un.frzs b ob _ z)
        rw [e] at e1
        cases e1
        exact e2
  have hz : vs.toArray.size ≤ sizeLine := by rw [List.size_toArray, hi.length]; exact hl
  by_cases hk : K.lookup a = none
  · have at_ : ∀ {b : Addr} {u : HO}, (if b = a then some (HO.frz { cls := .type "list", data := .seq vs.toArray } (.lst (ns.map V.int))) else none) = some u → b = a ∧ u = .frz { cls := .type "list", data := .seq vs.toArray } (.lst (ns.map V.int)) := by
      intro b u z
      by_cases e : b = a
      · rw [if_pos e] at z; cases z; exact ⟨e, rfl⟩
      · rw [if_neg e] at z; cases z
    refine by_ (fun b => if b = a then some (.frz { cls := .type "list", data := .seq vs.toArray } (.lst (ns.map V.int))) else none) (fun b => ?_) (.inl (.inr ⟨{ cls := .type "list", data := .seq vs.toArray }, if_pos rfl⟩)) (fun b u z => ?_) (fun b e => if_neg e) (.inl hk)
    · by_cases e : b = a
      · exact .inr ⟨_, _, if_pos e⟩
      · exact .inl (if_neg e)
    · obtain ⟨e1, e2⟩ := at_ z
      subst e1
      subst e2
      exact ⟨ha, by rw [List.length_map]; exact hl, vs, _, rv, ha⟩
  · obtain ⟨o, ho⟩ := Option.ne_none_iff_exists'.mp hk
    have e := KX a o ho
    rw [ha] at e
    cases e
    exact by_ (fun _ => none) (fun _ => .inl rfl) (.inr ⟨_, vs.toArray, _, ho, rfl, rfl, rfl, hz, by simpa using rv⟩) (fun b u z => by cases z) (fun b _ => rfl) (.inr rfl)
open PyProof.Rows in
theorem zwalk {l : PySem.W.OpenLaw} {q : Program} {loose : List Str} {XP : (Str → Option Value) → Heap → Prop} {YP : World → Heap → Prop} {d : DefRec} {K : Params → PySem.W.Frag} {f : Fn} {x : Str} (k : Nat) (hn : l.most = some 63) (hdf : d.params.defaults = [])
    (hr : Room k callerA) (hp : ∀ ns : List Int, ns.length ≤ 63 → trueF f ns)
    (hY : ∀ (w : World) (h : Heap), YP w h → (K w.params).In h)
    (F : ∀ (w : World) (mg : Str → Option Value) (fa : Addr) (h : Heap), (K w.params).In h → h.Ns mainGlobals mg → mg d.name = some (.ref fa) →
      ∃ fd : FuncData, (∀ (s : Shared) (u : Value), BindsTo s fd ⟨[u], []⟩ [(x, u)]) ∧ ∀ base : Heap, FnG l.prog w (K w.params) mg base (L2.CX l.prog w) k fa fd [x] (spF (K w.params) mg 1 f)) :
    PySem.W.WalkO q loose XP YP l.row.toRowW d [] (fun f vs => PySem.call f vs) :=
  Att.attach_call hn hdf fun w s₀ s₁ mg mb fa o pm cd doc a vs ns G Y ho hd hcd hmg hobj hints hlen hg => by
    have KX := hY w _ Y
    obtain ⟨fd, b, g⟩ := F w mg fa _ KX G.T.g hmg
    exact lawG (CX := L2.CX l.prog w) (sp := spLaw (K w.params) f) KX G.T.g G.T.b G.T.builtins G.T.nolimit hg hobj hints (Nat.le_trans hlen (by decide)) ⟨hr, rfl⟩ (fun base _ _ => lawSp (g base)) b
      (fun H _ hS => ⟨a, ns, rfl, hS, hp ns hlen, fun _ => rfl⟩) fun H e s' z => by
        obtain ⟨_, _, _, _, _, _, _, _, _, _, _, _, z⟩ := z
        exact z.elim
end Z
namespace Z
open PySem PySem.Spec L2
section
variable {α β : Type} {A : α → Gs → Prop} {C : β → Gs → Prop} {B : Exn → Gs → Prop} {g : Gs}
@[simp] theorem wp_ret {a : α} : Wp (M.ret a g) A B = A a g := rfl
@[simp] theorem wp_no : Wp ((M.no : M α) g) A B = False := rfl
@[simp] theorem wp_ok {a : α} : Wp (.ok a g) A B = A a g := rfl
@[simp] theorem wp_bad : Wp (.bad : Res α) A B = False := rfl
@[simp] theorem wp_bd {m : M α} {f : α → M β} : Wp (M.bd m f g) C B = Wp (m g) (fun a e' => Wp (f a e') C B) B := by
  exact propext Res.wp_bd
@[simp] theorem wp_ite {c : Prop} [Decidable c] {m n : M α} : Wp ((if c then m else n) g) A B = if c then Wp (m g) A B else Wp (n g) A B := by split <;> rfl
@[simp] theorem wp_gd {c : Bool} {m : M α} : Wp (gdM c m g) A B = (c = true ∧ Wp (m g) A B) := by
  unfold gdM
  split
  · simp_all
  · simp_all [Wp]
end
def optW {α : Type} (x : Option α) (A : α → Prop) : Prop := match x with
  | some o => A o
  | none => False
@[simp] theorem optW_some {α : Type} {o : α} {A : α → Prop} : optW (some o) A = A o := rfl
@[simp] theorem optW_none {α : Type} {A : α → Prop} : optW (none : Option α) A = False := rfl
@[simp] theorem optW_ite {α : Type} {c : Prop} [Decidable c] {x : Option α} {A : α → Prop} : optW (if c then x else none) A = (c ∧ optW x A) := by
  split <;> simp_all
section
variable {A : O → Gs → Prop} {AB : Bool → Gs → Prop} {AF : Fl → Gs → Prop} {AL : List O → Gs → Prop} {AU : Unit → Gs → Prop} {AR : List Arg → Gs → Prop} {AD : List PyData → Gs → Prop} {B : Exn → Gs → Prop} {g : Gs} {m n : M O} {ms : M (List O)} {i : Nat}
@[simp] theorem wp_d {x : PyData} : Wp (dM x g) A B = A (.d x) g := rfl
@[simp] theorem wp_cons : Wp (consM m ms g) AL B = Wp (m g) (fun o g1 => Wp (ms g1) (fun os g2 => AL (o :: os) g2) B) B := by simp [consM]
@[simp] theorem wp_op {f : List O → Option O} : Wp (opM f ms g) A B = Wp (ms g) (fun os g1 => optW (f os) fun o => A o g1) B := by
  simp only [opM, wp_bd, liftM]
  congr 1
  funext os g1
  cases f os <;> rfl
@[simp] theorem wp_opt {x : Option O} : Wp (optM x g) A B = optW x fun o => A o g := by cases x <;> rfl
@[simp] theorem wp_tst : Wp (tstM m g) AB B = Wp (m g) (fun o g1 => match o with | .d (.bool b) => AB b g1 | _ => False) B := by
  simp only [tstM, wp_bd, asB]
  congr 1
  funext o g1
  split
  · rfl
  · first | rfl | (split <;> first | rfl | simp_all)
@[simp] theorem wp_asI {o : O} {AI : Int → Gs → Prop} : Wp (asI o g) AI B = match o with | .d (.int b) => AI b g | _ => False := by
  unfold asI
  split
  · rfl
  · first | rfl | (split <;> first | rfl | simp_all)
@[simp] theorem wp_asS {o : O} {AI : Str → Gs → Prop} : Wp (asS o g) AI B = match o with | .d (.str b) => AI b g | _ => False := by
  unfold asS
  split
  · rfl
  · first | rfl | (split <;> first | rfl | simp_all)
@[simp] theorem wp_asB {o : O} {AI : Bool → Gs → Prop} : Wp (asB o g) AI B = match o with | .d (.bool b) => AI b g | _ => False := by
  unfold asB
  split
  · rfl
  · first | rfl | (split <;> first | rfl | simp_all)
@[simp] theorem wp_rd : Wp (rdM i g) A B = match g[i]? with | some (some (.d x)) => A (.d x) g | _ => False := by
  unfold rdM
  split
  · simp_all
  · first | rfl | (split <;> first | rfl | simp_all)
@[simp] theorem wp_pk : Wp (pkM i g) A B = match g[i]? with | some (some o) => A o g | _ => False := by
  unfold pkM
  split
  · simp_all
  · first | rfl | (split <;> first | rfl | simp_all)
@[simp] theorem wp_mv : Wp (mvM i g) A B = match g[i]? with | some (some o) => A o (g.set i none) | _ => False := by
  unfold mvM
  split
  · simp_all
  · first | rfl | (split <;> first | rfl | simp_all)
def fzW (i : Nat) (g : Gs) (A : O → Gs → Prop) : Option (Option O) → Prop
  | some (some (.d x)) => A (.d x) g
  | some (some o) => match o.fz with
    | some x => A (.d x) (g.set i (some (.d x)))
    | none => False
  | _ => False
@[simp] theorem fzW_d {x : PyData} : fzW i g A (some (some (.d x))) = A (.d x) g := rfl
theorem fzW_lst {xs : List O} : fzW i g A (some (some (.lst xs))) = match (O.lst xs).fz with | some x => A (.d x) (g.set i (some (.d x))) | none => False := rfl
@[simp] theorem wp_fz : Wp (fzM i g) A B = fzW i g A (g[i]?) := by
  unfold fzM
  cases q : g[i]? with
  | none => rfl
  | some x =>
    cases x with
    | none => rfl
    | some o =>
      cases o with
      | d x => rfl
      | _ =>
        simp only [fzW]
        split <;> rename_i e <;> simp [Wp, e]
@[simp] theorem wp_tup : Wp (tupM ms g) A B = Wp (ms g) (fun os g1 => lenOk os.length = true ∧ A (mkTup os) g1) B := by simp [tupM]
@[simp] theorem wp_lst : Wp (lstM ms g) A B = Wp (ms g) (fun os g1 => lenOk os.length = true ∧ A (.lst os) g1) B := by simp [lstM]
@[simp] theorem wp_if {α : Type} {A : α → Gs → Prop} {c : M Bool} {m n : M α} : Wp (ifM c m n g) A B = Wp (c g) (fun b g1 => if b = true then Wp (m g1) A B else Wp (n g1) A B) B := by simp [ifM]
@[simp] theorem wp_bl {c : M Bool} : Wp (blM c g) A B = Wp (c g) (fun b g1 => A (.d (.bool b)) g1) B := by simp [blM]
@[simp] theorem wp_andV : Wp (andV m n g) A B = Wp (tstM m g) (fun b g1 => if b = true then Wp (n g1) A B else A (.d (.bool false)) g1) B := by simp only [andV, wp_bd, wp_ite, wp_ret]
@[simp] theorem wp_orV : Wp (orV m n g) A B = Wp (tstM m g) (fun b g1 => if b = true then A (.d (.bool true)) g1 else Wp (n g1) A B) B := by simp only [orV, wp_bd, wp_ite, wp_ret]
@[simp] theorem wp_notV : Wp (notV m g) A B = Wp (tstM m g) (fun b g1 => A (.d (.bool (!b))) g1) B := by simp only [notV, wp_bd, wp_ret]
@[simp] theorem wp_notZ {c : M Bool} : Wp (notZ c g) AB B = Wp (c g) (fun b g1 => AB (!b) g1) B := by simp only [notZ, wp_bd, wp_ret]
@[simp] theorem wp_andZ {c d : M Bool} : Wp (andZ c d g) AB B = Wp (c g) (fun b g1 => if b = true then Wp (d g1) AB B else AB false g1) B := by simp only [andZ, wp_bd, wp_ite, wp_ret]
@[simp] theorem wp_orZ {c d : M Bool} : Wp (orZ c d g) AB B = Wp (c g) (fun b g1 => if b = true then AB true g1 else Wp (d g1) AB B) B := by simp only [orZ, wp_bd, wp_ite, wp_ret]
@[simp] theorem wp_seq {a b : M Fl} : Wp (seqM a b g) AF B = Wp (a g) (fun fl g1 => match fl with | .next => Wp (b g1) AF B | .ret o => AF (.ret o) g1 | .brk => AF .brk g1 | .cnt => AF .cnt g1) B := by
  simp only [seqM, wp_bd]
  congr 1
  funext fl g1
  cases fl <;> rfl
@[simp] theorem wp_retM : Wp (retM m g) AF B = Wp (m g) (fun o g1 => AF (.ret o) g1) B := by simp [retM]
@[simp] theorem wp_drop : Wp (dropM m g) AF B = Wp (m g) (fun o g1 => AF .next g1) B := by simp [dropM]
@[simp] theorem wp_asg {f : O → M Unit} : Wp (asgM m f g) AF B = Wp (m g) (fun o g1 => Wp (f o g1) (fun _ g2 => AF .next g2) B) B := by simp [asgM]
@[simp] theorem wp_set {o : O} : Wp (setM i o g) AU B = AU () (g.set i (some o)) := rfl
@[simp] theorem wp_items {o : O} : Wp (itemsM o g) AD B = match o with
  | .d (.list ds) => AD ds g
  | .d (.tuple ds) => AD ds g
  | .d (.str z) => AD (signs z) g
  | .gL ds => AD ds g
  | .gT ds => AD ds g
  | .lst os => optW (allD os) fun ds => AD ds g
  | _ => False := by
  unfold itemsM
  repeat' split
  all_goals first | rfl | simp_all
@[simp] theorem wp_rng1 {os : List O} : Wp (rng1M os g) AD B = match os with | [.d (.int i)] => inRng i = true ∧ AD (intsF 0 i.toNat) g | _ => False := by
  unfold rng1M
  repeat' split
  all_goals simp_all [Wp]
@[simp] theorem wp_rng2 {os : List O} : Wp (rng2M os g) AD B = match os with | [.d (.int i), .d (.int j)] => (inRng i = true ∧ inRng j = true) ∧ AD (intsF i (j - i).toNat) g | _ => False := by
  unfold rng2M
  repeat' split
  all_goals simp_all [Wp]
@[simp] theorem wp_vw : Wp (vwM m g) A B = Wp (m g) (fun o g1 => match o with | .d x => A (.d x) g1 | _ => False) B := by
  refine (wp_bd (m := m)).trans (congrArg (fun Z => Wp (m g) Z B) ?_)
  funext o g1
  cases o <;> rfl
@[simp] theorem wp_ch {f f' : List O → Option O} {ma mb mc : M O} : Wp (chM f f' ma mb mc g) A B = Wp (ma g) (fun x g1 => Wp (mb g1) (fun y g2 => optW (f [x, y]) fun z => match z with
    | .d (.bool k) => if k = true then Wp (mc g2) (fun u g3 => optW (f' [y, u]) fun o => A o g3) B else A (.d (.bool false)) g2
    | _ => False) B) B := by
  simp only [chM, wp_bd, wp_op, wp_ret]
  congr 1
  funext x g1
  congr 1
  funext y g2
  cases f [x, y] with
  | none => rfl
  | some o =>
    simp only [wp_asB, optW_some]
    split
    · rename_i b
      cases b <;> simp
    · first | rfl | (split <;> simp_all)
@[simp] theorem wp_valA {ms : M (List Arg)} : Wp (valA m ms g) AR B = Wp (m g) (fun o g1 => Wp (ms g1) (fun as g2 => AR (.val o :: as) g2) B) B := by simp [valA]
@[simp] theorem wp_slIn {ms : M (List Arg)} : Wp (slIn i ms g) AR B = match g[i]? with | some (some _) => Wp (ms g) (fun as g2 => AR (.sl i :: as) g2) B | _ => False := by
  unfold slIn
  split
  · simp_all [slA]
  · first | rfl | (split <;> first | rfl | simp_all)
@[simp] theorem wp_slLh {ma ml mh : M O} : Wp (slLhM ma ml mh g) A B = Wp (ma g) (fun o g1 => Wp (ml g1) (fun oi g2 => match oi with | .d (.int i) => Wp (mh g2) (fun oj g3 => match oj with | .d (.int j) => (optW (slB o (some i) (some j)) fun r => A r g3) | _ => False) B | _ => False) B) B := by
  simp only [slLhM, wp_bd, wp_asI, wp_opt]
/-- a call -/
theorem wp_call {f : Fn} {dfs : List PyData} {ms : M (List Arg)} : Wp (callM f dfs ms g) A B = Wp (ms g) (fun as g1 => optW (takeA as g1) fun p => FW (f (p.1 ++ dfs.map O.d)) (fun r ps => ps.length = (p.1 ++ dfs.map O.d).length ∧ A r (giveA as (ps.take p.1.length) p.2)) (fun x => B x p.2)) B := by
  refine (wp_bd (m := ms)).trans (congrArg (fun Z => Wp (ms g) Z B) ?_)
  funext as g1
  cases takeA as g1 with
  | none => rfl
  | some p =>
    obtain ⟨os, g2⟩ := p
    simp only [optW_some]
    rw [show Wp _ A B = _ from propext FRes.wp_res]
    congr 1
    funext r ps
    split
    · rename_i h
      simp [Wp, h]
    · rename_i h
      exact propext ⟨fun z => z.elim, fun z => absurd z.1 h⟩
theorem fw_run {np na nN : Nat} {m : M Fl} {os : List O} {A : O → List O → Prop} {B : Exn → Prop} : FW (runF np na nN m os) A B = ((os.length = na ∧ (os.drop np).all isD = true) ∧ Wp (m (os.map some ++ List.replicate (nN - na) none))
    (fun fl g => match fl with
      | .next => FW (finF np os (.d .none) g) A B
      | .ret o => FW (finF np os o g) A B
      | _ => False) (fun x _ => B x)) := by
  unfold runF
  split
  · rename_i h
    simp only [h, and_self, true_and]
    rw [show FW _ A B = _ from propext Res.fw_toF]
    congr 1
    funext fl g
    cases fl <;> rfl
  · rename_i h
    exact propext ⟨fun z => z.elim, fun z => absurd z.1 h⟩
end
theorem Wp.mono {α : Type} {r : Res α} {A A' : α → Gs → Prop} {B B' : Exn → Gs → Prop} (h : Wp r A B) (ha : ∀ a e, A a e → A' a e) (hb : ∀ x e, B x e → B' x e) : Wp r A' B' := h.imp ha hb
theorem FW.mono {r : FRes} {A A' : O → List O → Prop} {B B' : Exn → Prop} (h : FW r A B) (ha : ∀ a e, A a e → A' a e) (hb : ∀ x, B x → B' x) : FW r A' B' := h.imp ha hb
theorem wp_while {c : M Bool} {body : M Fl} {A : Fl → Gs → Prop} {B : Exn → Gs → Prop} (I : Nat → Gs → Prop)
    (hs : ∀ k g, I k g → Wp (c g) (fun b g1 => if b = true then Wp (body g1) (fun fl g2 => match fl with | .next => ∃ j, j < k ∧ I j g2 | .cnt => ∃ j, j < k ∧ I j g2 | .brk => A .next g2 | .ret o => A (.ret o) g2) B else A .next g1) B) :
    ∀ (n k : Nat) (g : Gs), k < n → I k g → Wp (whM c body n g) A B
  | 0, k, g, h, _ => by omega
  | n + 1, k, g, hk, h => by
    simp only [whM, wp_bd]
    refine (hs k g h).mono (fun b g1 q => ?_) fun _ _ z => z
    cases b with
    | false => simpa using q
    | true =>
      simp only [if_true] at q
      simp only [if_true, wp_bd]
      refine q.mono (fun fl g2 z => ?_) fun _ _ z => z
      cases fl with
      | next =>
        obtain ⟨j, hj, z⟩ := z
        exact wp_while I hs n j g2 (by omega) z
      | cnt =>
        obtain ⟨j, hj, z⟩ := z
        exact wp_while I hs n j g2 (by omega) z
      | brk => exact z
      | ret o => exact z
theorem wp_comp {vs : List Nat} {mi : M (List PyData)} {set : O → M Unit} {tst : M Bool} {elt : M O} {g : Gs} {A : O → Gs → Prop} {B : Exn → Gs → Prop} :
    Wp (compM vs mi set tst elt g) A B = Wp (mi g) (fun ds g1 => lenOk ds.length = true ∧ Wp (lcM vs set tst elt ds [] (wipeG g1 vs)) (fun os g3 => A (.lst os) (restG g1 vs g3)) fun _ _ => False) B := by
  refine (wp_bd (m := mi)).trans (congrArg (fun Z => Wp (mi g) Z B) ?_)
  funext ds g1
  split
  · rename_i h
    simp only [h, true_and]
    exact (propext Res.wp_bd).trans (propext Res.wp_noX)
  · rename_i h
    simp [Wp, h]
end Z
namespace Z
open PySem PySem.Spec L2
@[simp] theorem addF_i {i j : Int} : addF [.d (.int i), .d (.int j)] = some (.d (.int (i + j))) := rfl
@[simp] theorem addF_s {i j : Str} : addF [.d (.str i), .d (.str j)] = if lenOk (i.length + j.length) = true then some (.d (.str (i ++ j))) else none := rfl
@[simp] theorem subF_i {i j : Int} : subF [.d (.int i), .d (.int j)] = some (.d (.int (i - j))) := rfl
@[simp] theorem mulF_i {i j : Int} : mulF [.d (.int i), .d (.int j)] = if mulC i j = true then some (.d (.int (i * j))) else none := rfl
@[simp] theorem divF_i {i j : Int} : divF [.d (.int i), .d (.int j)] = if (decide (0 < j) && decide (j < 18446744073709551616)) = true then some (.d (.int (i / j))) else none := rfl
@[simp] theorem modF_i {i j : Int} : modF [.d (.int i), .d (.int j)] = if decide (0 < j) = true then some (.d (.int (i % j))) else none := rfl
@[simp] theorem powF_i {i j : Int} : powF [.d (.int i), .d (.int j)] = if powC i j = true then some (.d (.int (i ^ j.toNat))) else none := rfl
@[simp] theorem ltF_i {i j : Int} : ltF [.d (.int i), .d (.int j)] = some (.d (.bool (decide (i < j)))) := rfl
@[simp] theorem leF_i {i j : Int} : leF [.d (.int i), .d (.int j)] = some (.d (.bool (decide (i ≤ j)))) := rfl
@[simp] theorem gtF_i {i j : Int} : gtF [.d (.int i), .d (.int j)] = some (.d (.bool (decide (j < i)))) := rfl
@[simp] theorem geF_i {i j : Int} : geF [.d (.int i), .d (.int j)] = some (.d (.bool (decide (j ≤ i)))) := rfl
@[simp] theorem max2F_i {i j : Int} : max2F [.d (.int i), .d (.int j)] = some (.d (.int (if j > i then j else i))) := rfl
@[simp] theorem min2F_i {i j : Int} : min2F [.d (.int i), .d (.int j)] = some (.d (.int (if j < i then j else i))) := rfl
@[simp] theorem negF_i {i : Int} : negF [.d (.int i)] = some (.d (.int (-i))) := rfl
@[simp] theorem mulC_r {i j : Int} (h : -18446744073709551616 < j := by omega) (h' : j < 18446744073709551616 := by omega) : mulC i j = true := by simp [mulC, h, h']
@[simp] theorem mulC_l {i j : Int} (h : -18446744073709551616 < i := by omega) (h' : i < 18446744073709551616 := by omega) : mulC i j = true := by simp [mulC, h, h']
@[simp] theorem lenF_gL {ds : List PyData} : lenF [.gL ds] = some (.d (.int ds.length)) := rfl
@[simp] theorem lenF_gT {ds : List PyData} : lenF [.gT ds] = some (.d (.int ds.length)) := rfl
@[simp] theorem lenF_lst {ds : List O} : lenF [.lst ds] = some (.d (.int ds.length)) := rfl
@[simp] theorem lenF_l {ds : List PyData} : lenF [.d (.list ds)] = some (.d (.int ds.length)) := rfl
@[simp] theorem lenF_t {ds : List PyData} : lenF [.d (.tuple ds)] = some (.d (.int ds.length)) := rfl
@[simp] theorem lenF_s {z : Str} : lenF [.d (.str z)] = if lenOk z.length = true then some (.d (.int z.length)) else none := by
  simp only [lenF, lenB]
  split
  · rename_i n e
    split at e
    · rename_i h; cases e; simp [h]
    · cases e
  · rename_i e
    split at e
    · cases e
    · rename_i h; simp [h]
theorem lenOk_of {n : Nat} (h : n ≤ 16777216) : lenOk n = true := decide_eq_true h
theorem atI_nat {α : Type} {xs : List α} {i : Int} (h0 : 0 ≤ i) (h1 : i < xs.length) : ∃ h : i.toNat < xs.length, atI xs i = some xs[i.toNat] := by
  have h : i.toNat < xs.length := by omega
  refine ⟨h, ?_⟩
  unfold atI ixN
  rw [if_pos h0, if_pos h1]
  simp [h]
theorem ixF_s {z : Str} {i : Int} : ixF [.d (.str z), .d (.int i)] = if lenOk z.length = true then (match atI z.cps.toList i with | some c => some (.d (.str ⟨#[c]⟩)) | none => none) else none := rfl
/-- one of a list that is looked at -/
theorem optW_ix {o : O} {ds : List PyData} {i : Int} {A : O → Prop} (e : asLT o = some ds) (h0 : 0 ≤ i) (h1 : i < ds.length) (k : ∀ x, x ∈ ds → A (.d x)) : optW (ixF [o, .d (.int i)]) A := by
  obtain ⟨h, q⟩ := atI_nat h0 h1
  have : ixF [o, .d (.int i)] = some (.d ds[i.toNat]) := by
    unfold ixF
    split
    · rename_i z j heq
      cases heq
      cases e
    · rename_i a j _ heq
      cases heq
      simp only [e, q]
    · rename_i h2
      exact (h2 _ _ rfl).elim
  rw [this]
  exact k _ (List.getElem_mem h)
theorem optW_ixS {z : Str} {i : Int} {A : O → Prop} (hz : z.length ≤ 16777216) (h0 : 0 ≤ i) (h1 : i < z.length) (k : ∀ c, c ∈ z.cps.toList → A (.d (.str ⟨#[c]⟩))) : optW (ixF [.d (.str z), .d (.int i)]) A := by
  rw [ixF_s]
  simp only [lenOk_of hz, if_true]
  obtain ⟨h, q⟩ := atI_nat (xs := z.cps.toList) h0 (by simpa [Str.length] using h1)
  rw [q]
  exact k _ (List.getElem_mem h)
theorem asLT_d {os : List O} {ds : List PyData} (h : allD os = some ds) : asLT (.lst os) = some ds := by simp [asLT, asL, h]
@[simp] theorem asLT_gL {ds : List PyData} : asLT (.gL ds) = some ds := rfl
@[simp] theorem asLT_gT {ds : List PyData} : asLT (.gT ds) = some ds := rfl
@[simp] theorem len_app (a b : Str) : (a ++ b).length = a.length + b.length := PySem.Str.length_append a b
theorem len_cut (z : Str) (lo hi : Option Int) : (cutS z lo hi).length ≤ z.length := by
  simp [cutS, Str.length]
  omega
theorem len_cutHi (z : Str) (n : Nat) : (cutS z none (some (n : Int))).length ≤ n := by
  have h : HT.sIx z.length z.length (some (n : Int)) ≤ n := by rw [HT.sIx_nat]; omega
  have h2 : ∀ (l : List Nat) (k : Nat), ((l.take k).toArray).size ≤ k := fun l k => by simp; omega
  refine Nat.le_trans (h2 _ _) ?_
  show _ - HT.sIx z.length 0 none ≤ n
  rw [HT.sIx_none]
  omega
@[simp] theorem slHi_s {z : Str} {i : Int} : slF false true [.d (.str z), .d (.int i)] = if lenOk z.length = true then some (.d (.str (cutS z none (some i)))) else none := rfl
@[simp] theorem slLo_s {z : Str} {i : Int} : slF true false [.d (.str z), .d (.int i)] = if lenOk z.length = true then some (.d (.str (cutS z (some i) none))) else none := rfl
@[simp] theorem slB_s {z : Str} {l h : Option Int} : slB (.d (.str z)) l h = if lenOk z.length = true then some (.d (.str (cutS z l h))) else none := rfl
@[simp] theorem eqF_s {y z : Str} : eqF [.d (.str y), .d (.str z)] = some (.d (.bool (y == z))) := rfl
@[simp] theorem neF_s {y z : Str} : neF [.d (.str y), .d (.str z)] = some (.d (.bool (!(y == z)))) := rfl
@[simp] theorem eqF_i {y z : Int} : eqF [.d (.int y), .d (.int z)] = some (.d (.bool (y == z))) := by
  simp [eqF, eqB, O.fz, SeqAt.shaped, PyData.eqv, PyData.canLay0, PyData.depth]
@[simp] theorem neF_i {y z : Int} : neF [.d (.int y), .d (.int z)] = some (.d (.bool (!(y == z)))) := by
  simp [neF, eqB, O.fz, SeqAt.shaped, PyData.eqv, PyData.canLay0, PyData.depth]
@[simp] theorem eqF_b {y z : Bool} : eqF [.d (.bool y), .d (.bool z)] = some (.d (.bool (y == z))) := by
  simp [eqF, eqB, O.fz, SeqAt.shaped, PyData.eqv, PyData.canLay0, PyData.depth]
section
variable {A : O → Gs → Prop} {AU : Unit → Gs → Prop} {B : Exn → Gs → Prop} {g : Gs} {m n : M O} {i : Nat}
@[simp] theorem wp_up : Wp (upM m g) A B = Wp (m g) (fun o g1 => match o with | .d (.str s) => decide (s.length ≤ 5592405) = true ∧ A (.d (.str (Txt.upper s))) g1 | _ => False) B := by
  simp only [upM, wp_bd, wp_asS, wp_gd, wp_ret]
  try rfl
@[simp] theorem wp_join : Wp (joinM m n g) A B = Wp (m g) (fun o g1 => match o with | .d (.str s) => Wp (n g1) (fun x g2 => optW (joinB s x) fun r => A r g2) B | _ => False) B := by
  simp only [joinM, wp_bd, wp_asS, wp_opt]
  try rfl
@[simp] theorem wp_ixSet {o : O} : Wp (ixSetM i m o g) AU B = match g[i]? with
    | some (some _) => Wp (m g) (fun oi g1 => match oi with
      | .d (.int k) => (match g1[i]? with
        | some (some (.lst os)) => optW (ixN os.length k) fun j => AU () (g1.set i (some (.lst (os.set j o))))
        | _ => False)
      | _ => False) B
    | _ => False := by
  unfold ixSetM
  cases q : g[i]? with
  | none => rfl
  | some x =>
    cases x with
    | none => rfl
    | some v =>
      simp only
      refine (wp_bd (m := m)).trans (congrArg (fun Z => Wp (m g) Z B) ?_)
      funext oi g1
      refine (wp_bd (m := asI oi)).trans ?_
      rw [wp_asI]
      split
      · cases g1[i]? with
        | none => rfl
        | some y =>
          cases y with
          | none => rfl
          | some y =>
            cases y with
            | lst os =>
              simp only
              cases ixN os.length _ <;> rfl
            | _ => rfl
      · first | rfl | (split <;> first | rfl | simp_all)
@[simp] theorem wp_app : Wp (appLM i m g) A B = match g[i]? with
    | some (some (.lst _)) => Wp (m g) (fun o g1 => match g1[i]? with
        | some (some (.lst os)) => os.length < 16777216 ∧ A (.d .none) (g1.set i (some (.lst (os ++ [o]))))
        | _ => False) B
    | _ => False := by
  unfold appLM
  cases q : g[i]? with
  | none => rfl
  | some x =>
    cases x with
    | none => rfl
    | some v =>
      cases v with
      | lst xs =>
        simp only [appM]
        refine (wp_bd (m := m)).trans (congrArg (fun Z => Wp (m g) Z B) ?_)
        funext o g1
        cases g1[i]? with
        | none => rfl
        | some y =>
          cases y with
          | none => rfl
          | some y =>
            cases y with
            | lst os =>
              simp only
              split
              · rename_i h; simp [Wp, h]
              · rename_i h; simp [Wp, h]
            | _ => rfl
      | _ => rfl
@[simp] theorem wp_isi {n : String} : Wp (isiM n m g) A B = Wp (m g) (fun o g1 => tyN o ≠ "" ∧ optW (kitB (tyN o) n) fun k => A (.d (.bool k)) g1) B := by
  unfold isiM
  refine (wp_bd (m := m)).trans (congrArg (fun Z => Wp (m g) Z B) ?_)
  funext o g1
  split
  · simp_all [Wp]
  · rename_i h
    simp only [h, not_false_eq_true, true_and, ne_eq]
    cases kitB (tyN o) n <;> rfl
end
@[simp] theorem fw_ok {r : O} {ps : List O} {A : O → List O → Prop} {B : Exn → Prop} : FW (.ok r ps) A B = A r ps := rfl
@[simp] theorem fw_bad {A : O → List O → Prop} {B : Exn → Prop} : FW .bad A B = False := rfl
def Bx (o : O) : Prop := ∃ c s : Int, o = .lst [.d (.int c), .d (.int s)]
def g_take : M Fl := (seqM (ifM (tstM (opM gtF (consM (opM ixF (consM (pkM 0) (consM (dM (.int 0)) (M.ret [])))) (consM (dM (.int 0)) (M.ret []))))) (seqM (asgM (opM modF (consM (opM ixF (consM (pkM 0) (consM (dM (.int 0)) (M.ret [])))) (consM (pkM 1) (M.ret [])))) (setM 2))
  (seqM (asgM (opM divF (consM (opM ixF (consM (pkM 0) (consM (dM (.int 0)) (M.ret [])))) (consM (pkM 1) (M.ret [])))) (ixSetM 0 (dM (.int 0))))
  (retM (mvM 2)))) (M.ret .next))
  (seqM (asgM (opM modF (consM (opM mulF (consM (opM ixF (consM (pkM 0) (consM (dM (.int 1)) (M.ret [])))) (consM (dM (.int 69623)) (M.ret [])))) (consM (dM (.int 2147483647)) (M.ret [])))) (setM 3))
  (seqM (asgM (opM addF (consM (opM modF (consM (opM addF (consM (opM mulF (consM (pkM 3) (consM (dM (.int 48271)) (M.ret [])))) (consM (dM (.int 30103)) (M.ret [])))) (consM (dM (.int 2147483629)) (M.ret [])))) (consM (dM (.int 1)) (M.ret [])))) (ixSetM 0 (dM (.int 1))))
  (retM (opM modF (consM (opM divF (consM (opM addF (consM (opM mulF (consM (pkM 3) (consM (dM (.int 2147483647)) (M.ret [])))) (consM (opM ixF (consM (pkM 0) (consM (dM (.int 1)) (M.ret [])))) (M.ret [])))) (consM (dM (.int 8191)) (M.ret [])))) (consM (pkM 1) (M.ret []))))))))
def f_take : Fn := runF 2 2 4 g_take
theorem ix2a {c s : Int} : ixF [.lst [.d (.int c), .d (.int s)], .d (.int 0)] = some (.d (.int c)) := by rfl
theorem ix2b {c s : Int} : ixF [.lst [.d (.int c), .d (.int s)], .d (.int 1)] = some (.d (.int s)) := by rfl
theorem fw_take {bx : O} {n : Int} (h : Bx bx) (h0 : 0 < n) (h1 : n < 18446744073709551616) {A : O → List O → Prop} {B : Exn → Prop} (k : ∀ (r : Int) (bx' : O), Bx bx' → 0 ≤ r → r < n → A (.d (.int r)) [bx', .d (.int n)]) :
    FW (f_take [bx, .d (.int n)]) A B := by
  obtain ⟨c, s, rfl⟩ := h
  simp [f_take, fw_run, g_take, ix2a, ix2b, isD, h0, h1, ixN, finF, optAll]
  split
  · exact k _ _ ⟨_, _, rfl⟩ (Int.emod_nonneg _ (by omega)) (Int.emod_lt_of_pos _ h0)
  · exact k _ _ ⟨_, _, rfl⟩ (Int.emod_nonneg _ (by omega)) (Int.emod_lt_of_pos _ h0)
end Z
namespace Z
open PySem PySem.Spec L2
section
variable {α : Type} {A : O → Gs → Prop} {AO : O → Prop} {AB : Bool → Gs → Prop} {AF : Fl → Gs → Prop} {AL : List O → Gs → Prop} {AU : Unit → Gs → Prop} {AR : List Arg → Gs → Prop} {AD : List PyData → Gs → Prop} {B : Exn → Gs → Prop} {g g' : Gs} {m n : M O} {ms : M (List O)} {i k : Nat} {o : O}
theorem z_rd {x : PyData} (h : g[i]? = some (some (.d x))) (k : A (.d x) g) : Wp (rdM i g) A B := by rw [wp_rd, h]; exact k
theorem z_pk (h : g[i]? = some (some o)) (k : A o g) : Wp (pkM i g) A B := by rw [wp_pk, h]; exact k
theorem z_mv (h : g[i]? = some (some o)) (e : g.set i none = g') (k : A o g') : Wp (mvM i g) A B := by subst e; rw [wp_mv, h]; exact k
theorem z_fz {x : PyData} (h : g[i]? = some (some (.d x))) (k : A (.d x) g) : Wp (fzM i g) A B := by rw [wp_fz, h]; exact k
theorem z_fzL {x : PyData} {xs : List O} (h : g[i]? = some (some (.lst xs))) (f : (O.lst xs).fz = some x) (e : g.set i (some (.d x)) = g') (k : A (.d x) g') : Wp (fzM i g) A B := by subst e; rw [wp_fz, h, fzW_lst, f]; exact k
theorem z_set (e : g.set i (some o) = g') (k : AU () g') : Wp (setM i o g) AU B := by subst e; exact k
theorem z_sl {ms : M (List Arg)} (h : g[i]? = some (some o)) (k : Wp (ms g) (fun as g2 => AR (.sl i :: as) g2) B) : Wp (slIn i ms g) AR B := by rw [wp_slIn, h]; exact k
theorem z_itO {os : List O} {ds : List PyData} (h : allD os = some ds) (k : AD ds g) : Wp (itemsM (.lst os) g) AD B := by rw [wp_items]; simp only [h]; exact k
theorem z_rng1 {i : Int} (h0 : -4611686018427387904 ≤ i := by omega) (h1 : i < 4611686018427387904 := by omega) (k : AD (intsF 0 i.toNat) g) : Wp (rng1M [.d (.int i)] g) AD B := by
  rw [wp_rng1]
  exact ⟨by simp [inRng, h0, h1], k⟩
def Bw (A : O → Gs → Prop) (as : List Arg) (n k : Nat) (g : Gs) (r : O) (ps : List O) : Prop := ps.length = k ∧ A r (giveA as (ps.take n) g)
def Cw (f : Fn) (dfs : List PyData) (A : O → Gs → Prop) (B : Exn → Gs → Prop) (as : List Arg) (g : Gs) : Prop := optW (takeA as g) fun p => FW (f (p.1 ++ dfs.map O.d)) (fun r ps => Bw A as p.1.length (p.1 ++ dfs.map O.d).length p.2 r ps) (fun x => B x p.2)
theorem z_call {f : Fn} {dfs : List PyData} {ms : M (List Arg)} (k : Wp (ms g) (fun as g1 => Cw f dfs A B as g1) B) : Wp (callM f dfs ms g) A B := by
  rw [wp_call]
  exact k
theorem z_cw {f : Fn} {dfs : List PyData} {as : List Arg} {os os' : List O} (ht : takeA as g = some (os, g')) (ho : os ++ dfs.map O.d = os') (k : FW (f os') (fun r ps => Bw A as os.length os'.length g' r ps) (fun x => B x g')) : Cw f dfs A B as g := by
  subst ho
  unfold Cw
  rw [ht]
  exact k
theorem z_fin {np : Nat} {os ps : List O} {A : O → List O → Prop} {B : Exn → Prop} (h : optAll (g.take np) = some ps) (k : A o (ps ++ os.drop np)) : FW (finF np os o g) A B := by
  unfold finF
  rw [h]
  exact k
theorem z_run {np na nN : Nat} {m : M Fl} {os : List O} {gs : Gs} {A : O → List O → Prop} {B : Exn → Prop} (h : os.length = na) (h2 : (os.drop np).all isD = true) (e : os.map some ++ List.replicate (nN - na) none = gs) (k : Wp (m gs)
    (fun fl g => match fl with
      | .next => FW (finF np os (.d .none) g) A B
      | .ret o => FW (finF np os o g) A B
      | _ => False) (fun x _ => B x)) : FW (runF np na nN m os) A B := by
  subst e
  rw [fw_run]
  exact ⟨⟨h, h2⟩, k⟩
variable {x y : Int} {s t : Str} {ds : List PyData} {os : List O}
theorem z_mulI (h : mulC x y = true := by first | exact mulC_l | exact mulC_r) (k : AO (.d (.int (x * y)))) : optW (mulF [.d (.int x), .d (.int y)]) AO := by rw [mulF_i, if_pos h]; exact k
theorem z_modI (h0 : 0 < y := by omega) (k : AO (.d (.int (x % y)))) : optW (modF [.d (.int x), .d (.int y)]) AO := by rw [modF_i, if_pos (by simp [h0])]; exact k
theorem z_powI (h : powC x y = true) (k : AO (.d (.int (x ^ y.toNat)))) : optW (powF [.d (.int x), .d (.int y)]) AO := by rw [powF_i, if_pos h]; exact k
theorem z_maxI (k : AO (.d (.int (max x y)))) : optW (max2F [.d (.int x), .d (.int y)]) AO := by
  have e : (if y > x then y else x) = max x y := by omega
  rw [max2F_i, e]; exact k
theorem z_minI (k : AO (.d (.int (min x y)))) : optW (min2F [.d (.int x), .d (.int y)]) AO := by
  have e : (if y < x then y else x) = min x y := by omega
  rw [min2F_i, e]; exact k
theorem z_eqI (k : AO (.d (.bool (x == y)))) : optW (eqF [.d (.int x), .d (.int y)]) AO := by rw [eqF_i]; exact k
theorem z_neI (k : AO (.d (.bool (!(x == y))))) : optW (neF [.d (.int x), .d (.int y)]) AO := by rw [neF_i]; exact k
theorem z_eqS (k : AO (.d (.bool (s == t)))) : optW (eqF [.d (.str s), .d (.str t)]) AO := k
theorem z_addS (h : s.length + t.length ≤ 16777216) (k : AO (.d (.str (s ++ t)))) : optW (addF [.d (.str s), .d (.str t)]) AO := by rw [addF_s, if_pos (lenOk_of h)]; exact k
theorem z_lenS (h : s.length ≤ 16777216) (k : AO (.d (.int s.length))) : optW (lenF [.d (.str s)]) AO := by rw [lenF_s, if_pos (lenOk_of h)]; exact k
theorem z_slHi (h : s.length ≤ 16777216) (k : AO (.d (.str (cutS s none (some x))))) : optW (slF false true [.d (.str s), .d (.int x)]) AO := by rw [slHi_s, if_pos (lenOk_of h)]; exact k
theorem z_slLo (h : s.length ≤ 16777216) (k : AO (.d (.str (cutS s (some x) none)))) : optW (slF true false [.d (.str s), .d (.int x)]) AO := by rw [slLo_s, if_pos (lenOk_of h)]; exact k
theorem z_slB {l r : Option Int} (h : s.length ≤ 16777216) (k : AO (.d (.str (cutS s l r)))) : optW (slB (.d (.str s)) l r) AO := by rw [slB_s, if_pos (lenOk_of h)]; exact k
theorem z_addLL {xs ys : List PyData} {as bs : List O} (ha : allD as = some xs) (hb : allD bs = some ys) (hl : xs.length + ys.length ≤ 16777216) (k : AO (.lst ((xs ++ ys).map O.d))) : optW (addF [.lst as, .lst bs]) AO := by
  have e : addF [.lst as, .lst bs] = some (.lst ((xs ++ ys).map O.d)) := by simp [addF, asL, ha, hb, lenOk_of hl]
  rw [e]; exact k
theorem z_addDL {xs ys : List PyData} {bs : List O} (hb : allD bs = some ys) (hl : xs.length + ys.length ≤ 16777216) (k : AO (.lst ((xs ++ ys).map O.d))) : optW (addF [.d (.list xs), .lst bs]) AO := by
  have e : addF [.d (.list xs), .lst bs] = some (.lst ((xs ++ ys).map O.d)) := by simp [addF, asL, hb, lenOk_of hl]
  rw [e]; exact k
theorem z_in {neg b : Bool} {o p : O} (h : inB o p = some b) (k : AO (.d (.bool (if neg then !b else b)))) : optW (inF neg [o, p]) AO := by
  unfold inF
  simp only [h]
  exact k
end
end Z
namespace Z
open PySem PySem.Spec L2
section
variable {X : Cx} {W : WX} {pu pv pw : Bool} {H H' : Hp} {Ex : List (Addr × HO)} {σ σ' : L2.St} {g : Gs} {T T' ws ws' rs : Roots} {e a b o lo hi : Expr} {es : List Expr} {m : M O} {ms : M (List O)} {pos p p2 apos : Pos} {k j np : Nat} {x : Str}
theorem zipErase : ∀ {vs : List V} {os : List O} {j : Nat}, (vs.zip os).eraseIdx j = (vs.eraseIdx j).zip (os.eraseIdx j)
  | [], _, _ => by simp
  | _ :: _, [], j => by cases j <;> simp
  | v :: vs, q :: os, 0 => by simp
  | v :: vs, q :: os, j + 1 => by simp [zipErase (vs := vs) (os := os) (j := j)]
theorem At.take {i j : Nat} {os : List O} {v : V} (a : At X H Ex σ g T ws) (hg : g[i]? = some (some (.lst os))) (hv : σ[i]? = some (some v)) (hj : j < os.length) : ∃ ad vs, v = .ref ad ∧ H ad = some (.lst vs) ∧ ∃ hl : vs.length = os.length,
    At X (upd H ad (.lst (vs.eraseIdx j))) Ex σ (g.set i (some (.lst (os.eraseIdx j)))) ((vs[j]'(by omega), os[j]) :: T) [] := by
  have r := (a.get hg hv).noviews
  obtain ⟨ad, ho, vs, os1, e1, e2, p, hl, r2⟩ := r.opn rfl
  cases p
  refine ⟨ad, vs, e1, e2, hl, ?_⟩
  subst e1
  have hjz : j < (vs.zip os).length := by rw [List.length_zip]; omega
  have p1 : (vs.zip os).Perm ((vs.zip os)[j] :: (vs.zip os).eraseIdx j) := (permErase hjz).symm
  have e3 : (vs.zip os)[j] = (vs[j]'(by omega), os[j]) := by simp
  rw [e3, zipErase] at p1
  have r3 := (r2.perm (p1.append_right _)).write (.lst (vs.eraseIdx j))
  rw [List.cons_append] at r3
  have r4 := (r3.perm (List.perm_middle (a := (vs[j]'(by omega), os[j])) (l₁ := (vs.eraseIdx j).zip (os.eraseIdx j)) (l₂ := roots σ (g.set i none) ++ T)).symm).shut (.lst (os := os.eraseIdx j)) (by rw [List.length_eraseIdx, List.length_eraseIdx, hl])
  exact .put a.fit hv (r4.perm (List.Perm.cons _ List.perm_middle.symm))
def popIM (i : Nat) (m : M O) : M O := M.bd m fun oi => M.bd (asI oi) fun k g => match g[i]? with
  | some (some (.lst os)) => if decide (-9223372036854775808 ≤ k) && decide (k < 9223372036854775808) then match seqIndex? k os.length with
    | some j => match os[j]? with
      | some o => .ok o (g.set i (some (.lst (os.eraseIdx j))))
      | none => .bad
    | none => .bad else .bad
  | _ => .bad
def popLM (i : Nat) (m : M O) : M O := fun g => match g[i]? with
  | some (some (.lst _)) => popIM i m g
  | _ => .bad
theorem ev_popAt (i : Nat) {xn : Str} {ap pp : Pos} (h : Ev X W pu a m) (hN : X.N[i]? = some xn := by rfl) (hv : Vis X.env.scope xn := by first | exact Or.inl rfl | exact Or.inr (Or.inl rfl) | exact Or.inr (Or.inr rfl)) (hdd1 : (xn == ("__debug__" : Str)) = false := by decide) (hcd : (xn == ("__classdict__" : Str)) = false := by decide)
    (hbase : attributeBase (.Name xn pp) "pop" X.env (eval (.Name xn pp) X.env) = eval (.Name xn pp) X.env := by rfl)
    (hfew : ((backTo pos (starEach [a] X.env)).all (fun x => !x.1) && (backToKw pos (keywordEach [] X.env)).all (fun x => x.1.isSome)
      && decide ([a].length + ([] : List Keyword).length + (if ([] : List Keyword).isEmpty then 0 else 1) < 30)) = true := by rfl)
    (hline : (ap.endLine == pos.line) = true := by rfl) (hst : starEach [a] X.env = (false, eval a X.env) :: starEach [] X.env := by rfl) (hplain : (backTo pos (starEach [] X.env)).any (·.1) = false := by rfl) :
    Ev X W false (.Call (.Attribute (.Name xn pp) "pop" ap) [a] [] pos) (popLM i m) := by
  obtain ⟨t, h1, h2⟩ := h.ex
  refine ⟨_, pe_bm PySem.F.plainAttrs_list PySem.F.slot_list_pop PySem.F.type_list_pop mt_popAt (pv i hN hv hdd1 hcd) (pa_cons h1 pa_nil hst) hbase hfew hline hst hplain, fun σ H Q g T Ex ws at0 w => ?_⟩
  unfold popLM at w
  split at w
  · rename_i os0 hg0
    obtain ⟨v, hv⟩ := at0.fit.at_ _ _ hg0
    have r0 := (at0.get hg0 hv).noviews
    obtain ⟨ad0, ho0, vs0, os1, e1, e2, p, hl, r2⟩ := r0.opn rfl
    cases p
    subst e1
    refine ⟨_, hv, .inl ⟨rfl, _, SqL.of e2⟩, ?_⟩
    refine h2 σ H _ g T Ex ws at0 (w.bd.imp (fun o g' kk y H' s a' => ?_) fun _ _ kk => kk)
    obtain ⟨n, rfl, k5⟩ := wpI (Wp.bd kk)
    clear kk
    obtain rfl := a'.top.isI
    split at k5
    · rename_i os hg
      split at k5
      · rename_i hb
        split at k5
        · rename_i j hj
          split at k5
          · rename_i o e
            obtain ⟨hj', e'⟩ := List.getElem?_eq_some_iff.mp e
            obtain ⟨ad, vs, e3, e4, hl', a3⟩ := (At.take (At.drop a') hg hv hj')
            cases e3
            have hb' := Bool.and_eq_true_iff.mp hb
            refine ⟨ad0, vs, n, j, vs[j]'(by omega), rfl, rfl, e4, of_decide_eq_true hb'.1, of_decide_eq_true hb'.2, by rw [hl']; exact hj, by simp [hl', hj'], ?_⟩
            rw [e'] at a3
            exact k5 _ _ (fun z => by cases z) a3
          · exact k5.elim
        · exact k5.elim
      · exact k5.elim
    · exact k5.elim
  · exact w.elim
end
end Z
namespace Z
open PySem PySem.Spec L2
end Z
namespace Z
open PySem PySem.Spec L2
end Z
namespace Z
open PySem PySem.Spec PyProof.Rows L2
end Z
namespace Z
open PySem PySem.Spec L2
def insS (x : Int) : List Int → List Int
  | [] => [x]
  | y :: r => if x < y then x :: y :: r else if x = y then y :: r else y :: insS x r
def srtS (l : List Int) : List Int := l.foldr insS []
end Z
namespace Z
open PySem PySem.Spec L2
end Z
namespace Z
open PySem PySem.Spec L2
section
variable {A : O → Gs → Prop} {AO : O → Prop} {B : Exn → Gs → Prop} {g g' : Gs} {m n : M O} {i k : Nat} {o : O} {os : List O} {x y : Int} {s t : Str} {ds : List PyData}
theorem z_popAt (h : g[i]? = some (some (.lst os))) (q : Wp (m g) (fun oi g1 => match oi with
    | .d (.int x) => ∃ os1 j o, g1[i]? = some (some (.lst os1)) ∧ (-9223372036854775808 ≤ x ∧ x < 9223372036854775808) ∧ seqIndex? x os1.length = some j ∧ os1[j]? = some o ∧ A o (g1.set i (some (.lst (os1.eraseIdx j))))
    | _ => False) B) : Wp (popLM i m g) A B := by
  unfold popLM
  rw [h]
  simp only [popIM]
  refine (wp_bd (m := m)).mpr (q.mono (fun oi g1 z => ?_) fun _ _ z => z)
  refine (wp_bd (m := asI oi)).mpr ?_
  rw [wp_asI]
  split at z
  · obtain ⟨os1, j, o, e1, ⟨b1, b2⟩, e2, e3, z⟩ := z
    simp only [e1, e2, e3, b1, b2, decide_true, Bool.and_self, if_true]
    exact z
  · exact z.elim
theorem z_app (h : g[i]? = some (some (.lst os))) (q : Wp (m g) (fun o g1 => ∃ os1, g1[i]? = some (some (.lst os1)) ∧ os1.length < 16777216 ∧ A (.d .none) (g1.set i (some (.lst (os1 ++ [o]))))) B) : Wp (appLM i m g) A B := by
  rw [wp_app, h]
  refine q.mono (fun o g1 z => ?_) fun _ _ z => z
  obtain ⟨os1, e1, e2, z⟩ := z
  rw [e1]
  exact ⟨e2, z⟩
end
end Z
namespace G
open PySem PySem.Spec L2 Z
inductive Tst where
  | yes | no
  | ask (q : Str)
  | not (t : Tst)
  | and (a b : Tst)
  | or (a b : Tst)
inductive Err where
  | done
  | doo (p : Str)
  | often (e : Err)
  | whl (t : Tst) (e : Err)
  | thn (a b : Err)
  | iff (t : Tst) (a b : Err)
  | eth (a b : Err)
def Tst.d : Tst → PyData
  | .yes => .tuple [.str "yes"]
  | .no => .tuple [.str "no"]
  | .ask q => .tuple [.str "ask", .str q]
  | .not t => .tuple [.str "not", t.d]
  | .and a b => .tuple [.str "and", a.d, b.d]
  | .or a b => .tuple [.str "or", a.d, b.d]
def Err.d : Err → PyData
  | .done => .tuple [.str "done"]
  | .doo p => .tuple [.str "do", .str p]
  | .often e => .tuple [.str "often", e.d]
  | .whl t e => .tuple [.str "while", t.d, e.d]
  | .thn a b => .tuple [.str "then", a.d, b.d]
  | .iff t a b => .tuple [.str "if", t.d, a.d, b.d]
  | .eth a b => .tuple [.str "either", a.d, b.d]
def Tst.size : Tst → Nat
  | .not t => 1 + t.size
  | .and a b => 1 + a.size + b.size
  | .or a b => 1 + a.size + b.size
  | _ => 1
def Tst.deep : Tst → Nat
  | .not t => 1 + t.deep
  | .and a b => 1 + max a.deep b.deep
  | .or a b => 1 + max a.deep b.deep
  | _ => 1
def Err.size : Err → Nat
  | .often e => 1 + e.size
  | .whl _ e => 1 + e.size
  | .thn a b => 1 + a.size + b.size
  | .iff _ a b => 1 + a.size + b.size
  | .eth a b => 1 + a.size + b.size
  | _ => 1
def Err.deep : Err → Nat
  | .often e => 1 + e.deep
  | .whl _ e => 1 + e.deep
  | .thn a b => 1 + max a.deep b.deep
  | .iff _ a b => 1 + max a.deep b.deep
  | .eth a b => 1 + max a.deep b.deep
  | _ => 1
end G
namespace G
open PySem PySem.Spec L2 Z
def g_law_box : M Fl := (seqM (asgM (opM addF (consM (opM mulF (consM (dM (.int 7919)) (consM (pkM 1) (M.ret [])))) (consM (dM (.int 11)) (M.ret [])))) (setM 2))
  (seqM (ifM (tstM (opM ltF (consM (pkM 1) (consM (opM lenF (consM (pkM 0) (M.ret []))) (M.ret []))))) (asgM (opM ixF (consM (pkM 0) (consM (pkM 1) (M.ret [])))) (setM 2)) (ifM (tstM (opM gtF (consM (opM lenF (consM (pkM 0) (M.ret []))) (consM (dM (.int 0)) (M.ret []))))) (asgM (opM addF (consM (pkM 2) (consM (opM mulF (consM (opM modF (consM (opM ixF (consM (pkM 0) (consM (opM modF (consM (pkM 1) (consM (opM lenF (consM (pkM 0) (M.ret []))) (M.ret [])))) (M.ret [])))) (consM (dM (.int 2147483629)) (M.ret [])))) (consM (dM (.int 69623)) (M.ret [])))) (M.ret [])))) (setM 2)) (M.ret .next)))
  (seqM (asgM (opM addF (consM (opM modF (consM (opM addF (consM (opM mulF (consM (opM modF (consM (pkM 2) (consM (dM (.int 2147483629)) (M.ret [])))) (consM (dM (.int 48271)) (M.ret [])))) (consM (opM mulF (consM (dM (.int 40692)) (consM (pkM 1) (M.ret [])))) (M.ret [])))) (consM (dM (.int 2147483629)) (M.ret [])))) (consM (dM (.int 1)) (M.ret [])))) (setM 3))
  (seqM (ifM (tstM (opM ltF (consM (pkM 2) (consM (opM powF (consM (dM (.int 10)) (consM (dM (.int 18)) (M.ret [])))) (M.ret []))))) (asgM (dM (.int 0)) (setM 2)) (M.ret .next))
  (retM (lstM (consM (fzM 2) (consM (fzM 3) (M.ret [])))))))))
def f_law_box : Fn := runF 2 2 4 g_law_box
def g_law_take : M Fl := (seqM (ifM (tstM (opM gtF (consM (opM ixF (consM (pkM 0) (consM (dM (.int 0)) (M.ret [])))) (consM (dM (.int 0)) (M.ret []))))) (seqM (asgM (opM modF (consM (opM ixF (consM (pkM 0) (consM (dM (.int 0)) (M.ret [])))) (consM (pkM 1) (M.ret [])))) (setM 2))
  (seqM (asgM (opM divF (consM (opM ixF (consM (pkM 0) (consM (dM (.int 0)) (M.ret [])))) (consM (pkM 1) (M.ret [])))) (ixSetM 0 (dM (.int 0))))
  (retM (mvM 2)))) (M.ret .next))
  (seqM (asgM (opM modF (consM (opM mulF (consM (opM ixF (consM (pkM 0) (consM (dM (.int 1)) (M.ret [])))) (consM (dM (.int 69623)) (M.ret [])))) (consM (dM (.int 2147483647)) (M.ret [])))) (setM 3))
  (seqM (asgM (opM addF (consM (opM modF (consM (opM addF (consM (opM mulF (consM (pkM 3) (consM (dM (.int 48271)) (M.ret [])))) (consM (dM (.int 30103)) (M.ret [])))) (consM (dM (.int 2147483629)) (M.ret [])))) (consM (dM (.int 1)) (M.ret [])))) (ixSetM 0 (dM (.int 1))))
  (retM (opM modF (consM (opM divF (consM (opM addF (consM (opM mulF (consM (pkM 3) (consM (dM (.int 2147483647)) (M.ret [])))) (consM (opM ixF (consM (pkM 0) (consM (dM (.int 1)) (M.ret [])))) (M.ret [])))) (consM (dM (.int 8191)) (M.ret [])))) (consM (pkM 1) (M.ret []))))))))
def f_law_take : Fn := runF 2 2 4 g_law_take
def g_law_taken : M Fl := (seqM (asgM (lstM (consM (dM (.str "yes")) (consM (dM (.str "no")) (consM (dM (.str "not")) (consM (dM (.str "and")) (consM (dM (.str "or")) (consM (dM (.str "done")) (consM (dM (.str "then")) (consM (dM (.str "if")) (consM (dM (.str "while")) (consM (dM (.str "either")) (consM (dM (.str "often")) (consM (dM (.str "asks")) (consM (dM (.str "deeds")) (M.ret []))))))))))))))) (setM 0))
  (retM (opM addF (consM (pkM 0) (consM (lstM (consM (dM (.str "keeps")) (consM (dM (.str "makes")) (consM (dM (.str "rests")) (consM (dM (.str "idles")) (consM (dM (.str "still")) (consM (dM (.str "never")) (M.ret [])))))))) (M.ret []))))))
def f_law_taken : Fn := runF 0 0 1 g_law_taken
def g_law_name : M Fl := (seqM (asgM (dM (.str "abcdefghijklmnopqrstuvwxyz")) (setM 1))
  (seqM (asgM (joinM (dM (.str "")) (compM [6] (M.bd (consM (opM addF (consM (dM (.int 1)) (consM (callM f_law_take [] (slIn 0 (valA (dM (.int 5)) (M.ret [])))) (M.ret [])))) (M.ret [])) rng1M) (setM 6) yesM (opM ixF (consM (fzM 1) (consM (callM f_law_take [] (slIn 0 (valA (dM (.int 26)) (M.ret [])))) (M.ret [])))))) (setM 2))
  (seqM (ifM (tstM (opM eqF (consM (callM f_law_take [] (slIn 0 (valA (dM (.int 4)) (M.ret [])))) (consM (dM (.int 0)) (M.ret []))))) (seqM (asgM (opM ixF (consM (callM f_law_taken [] (M.ret [])) (consM (callM f_law_take [] (slIn 0 (valA (dM (.int 19)) (M.ret [])))) (M.ret [])))) (setM 3))
  (seqM (asgM (callM f_law_take [] (slIn 0 (valA (opM addF (consM (opM lenF (consM (pkM 3) (M.ret []))) (consM (dM (.int 1)) (M.ret [])))) (M.ret [])))) (setM 4))
  (seqM (asgM (lstM (consM (opM addF (consM (opM (slF false true) (consM (pkM 3) (consM (pkM 4) (M.ret [])))) (consM (opM (slF true false) (consM (pkM 3) (consM (opM addF (consM (pkM 4) (consM (dM (.int 1)) (M.ret [])))) (M.ret [])))) (M.ret [])))) (consM (opM addF (consM (opM addF (consM (opM (slF false true) (consM (pkM 3) (consM (pkM 4) (M.ret [])))) (consM (opM ixF (consM (pkM 2) (consM (dM (.int 0)) (M.ret [])))) (M.ret [])))) (consM (opM (slF true false) (consM (pkM 3) (consM (pkM 4) (M.ret [])))) (M.ret [])))) (consM (opM addF (consM (opM addF (consM (opM (slF false true) (consM (pkM 3) (consM (pkM 4) (M.ret [])))) (consM (opM ixF (consM (pkM 2) (consM (dM (.int 0)) (M.ret [])))) (M.ret [])))) (consM (opM (slF true false) (consM (pkM 3) (consM (opM addF (consM (pkM 4) (consM (dM (.int 1)) (M.ret [])))) (M.ret [])))) (M.ret [])))) (M.ret []))))) (setM 5))
  (asgM (opM (slF false true) (consM (opM ixF (consM (fzM 5) (consM (callM f_law_take [] (slIn 0 (valA (dM (.int 3)) (M.ret [])))) (M.ret [])))) (consM (dM (.int 5)) (M.ret [])))) (setM 2))))) (M.ret .next))
  (seqM (ifM (tstM (opM eqF (consM (callM f_law_take [] (slIn 0 (valA (dM (.int 12)) (M.ret [])))) (consM (dM (.int 0)) (M.ret []))))) (asgM (opM ixF (consM (lstM (consM (dM (.str "do")) (consM (dM (.str "ask")) (M.ret [])))) (consM (callM f_law_take [] (slIn 0 (valA (dM (.int 2)) (M.ret [])))) (M.ret [])))) (setM 2)) (M.ret .next))
  (seqM (ifM (orZ (tstM (opM eqF (consM (pkM 2) (consM (dM (.str "")) (M.ret []))))) (tstM (opM (inF false) (consM (fzM 2) (consM (callM f_law_taken [] (M.ret [])) (M.ret [])))))) (asgM (dM (.str "q")) (setM 2)) (M.ret .next))
  (retM (mvM 2)))))))
def f_law_name : Fn := runF 1 1 7 g_law_name
end G
namespace Z
open PySem PySem.Spec L2
class Stp (P : Prop) (Q : outParam Prop) : Prop where
  go : Q → P
/-- a side condition ahead of what is left -/
structure Sd (P Q : Prop) : Prop where
  mk ::
  l : P
  r : Q
class Get (g : Gs) (i : Nat) (o : outParam (Option O)) : Prop where
  get : g[i]? = some o
instance get0 {x : Option O} {g : Gs} : Get (x :: g) 0 x := ⟨rfl⟩
instance getS {x : Option O} {g : Gs} {n : Nat} {o : Option O} [h : Get g n o] : Get (x :: g) (n + 1) o := ⟨by rw [List.getElem?_cons_succ]; exact h.get⟩
class Put (g : Gs) (i : Nat) (o : Option O) (g' : outParam Gs) : Prop where
  put : g.set i o = g'
instance put0 {x o : Option O} {g : Gs} : Put (x :: g) 0 o (o :: g) := ⟨rfl⟩
instance putS {x o : Option O} {g g' : Gs} {n : Nat} [h : Put g n o g'] : Put (x :: g) (n + 1) o (x :: g') := ⟨by rw [List.set_cons_succ, h.put]⟩
class WipC (g : Gs) (vs : List Nat) (g' : outParam Gs) : Prop where
  eq : wipeG g vs = g'
instance wip0 {g : Gs} : WipC g [] g := ⟨rfl⟩
instance wipS {g g1 g2 : Gs} {v : Nat} {vs : List Nat} [h : WipC g vs g1] [p : Put g1 v none g2] : WipC g (v :: vs) g2 := ⟨by rw [wipeG, h.eq, p.put]⟩
class RstC (g1 : Gs) (vs : List Nat) (g3 : Gs) (g' : outParam Gs) : Prop where
  eq : restG g1 vs g3 = g'
instance rst0 {g1 g3 : Gs} : RstC g1 [] g3 g3 := ⟨rfl⟩
instance rstS {g1 g3 g4 w g' : Gs} {v : Nat} {vs : List Nat} {o : Option O} [h : WipC g1 vs w] [t : Get w v o] [p : Put g3 v o g4] [r : RstC g1 vs g4 g'] : RstC g1 (v :: vs) g3 g' :=
  ⟨by rw [restG, h.eq, t.get, Option.getD_some, p.put, r.eq]⟩
class AppC {α : Type} (a b : List α) (c : outParam (List α)) : Prop where
  eq : a ++ b = c
instance app0 {α : Type} {b : List α} : AppC [] b b := ⟨rfl⟩
instance appS {α : Type} {x : α} {a b c : List α} [h : AppC a b c] : AppC (x :: a) b (x :: c) := ⟨by rw [List.cons_append, h.eq]⟩
instance (priority := 50) appF {α : Type} {a b : List α} : AppC a b (a ++ b) := ⟨rfl⟩
/-- data as owned things -/
class MpC (ds : List PyData) (os : outParam (List O)) : Prop where
  eq : ds.map O.d = os
instance mp0 : MpC [] [] := ⟨rfl⟩
instance mpS {x : PyData} {ds : List PyData} {os : List O} [h : MpC ds os] : MpC (x :: ds) (.d x :: os) := ⟨by rw [List.map_cons, h.eq]⟩
instance (priority := 50) mpF {ds : List PyData} : MpC ds (ds.map O.d) := ⟨rfl⟩
class LenC {α : Type} (a : List α) (n : outParam Nat) : Prop where
  eq : a.length = n
instance len0 {α : Type} : LenC ([] : List α) 0 := ⟨rfl⟩
instance lenS {α : Type} {x : α} {a : List α} {n : Nat} [h : LenC a n] : LenC (x :: a) (n + 1) := ⟨by rw [List.length_cons, h.eq]⟩
class SmC {α : Type} (a : List α) : Prop where
  ok : lenOk a.length = true
instance sm1 {α : Type} {a : α} : SmC [a] := ⟨rfl⟩
instance sm2 {α : Type} {a b : α} : SmC [a, b] := ⟨rfl⟩
instance sm3 {α : Type} {a b c : α} : SmC [a, b, c] := ⟨rfl⟩
instance sm4 {α : Type} {a b c d : α} : SmC [a, b, c, d] := ⟨rfl⟩
instance sm6 {α : Type} {a b c d e f : α} : SmC [a, b, c, d, e, f] := ⟨rfl⟩
instance sm7 {α : Type} {a b c d e f x : α} : SmC [a, b, c, d, e, f, x] := ⟨rfl⟩
/-- all data -/
class AllC (os : List O) (ds : outParam (List PyData)) : Prop where
  eq : allD os = some ds
instance all0 : AllC [] [] := ⟨rfl⟩
instance allS {x : PyData} {os : List O} {ds : List PyData} [h : AllC os ds] : AllC (.d x :: os) (x :: ds) := ⟨by rw [allD, h.eq]⟩
instance allM {ds : List PyData} : AllC (ds.map O.d) ds := ⟨allD_map ds⟩
class NoC (os : List O) : Prop where
  eq : allD os = none
instance no1 {x : List O} {os : List O} : NoC (.lst x :: os) := ⟨rfl⟩
class TupC (os : List O) (o : outParam O) : Prop where
  eq : mkTup os = o
instance tupA {os : List O} {ds : List PyData} [h : AllC os ds] : TupC os (.d (.tuple ds)) := ⟨by rw [mkTup, h.eq]⟩
instance tupN {os : List O} [h : NoC os] : TupC os (.tup os) := ⟨by rw [mkTup, h.eq]⟩
/-- what may be frozen -/
class IdxC (ds : List PyData) : Prop where
  eq : idxS ds = false
instance idx1 {x : List PyData} {ds : List PyData} : IdxC (.list x :: ds) := ⟨by simp [idxS]⟩
mutual
class FzC (o : O) (x : outParam PyData) : Prop where
  eq : o.fz = some x
end
class FzL (os : List O) (ds : outParam (List PyData)) : Prop where
  eq : O.fzL os = some ds
theorem fzLd : ∀ ds : List PyData, O.fzL (ds.map O.d) = some ds
  | [] => rfl
  | x :: r => by simp [O.fzL, O.fz, fzLd r]
instance fz0 {x : PyData} : FzC (.d x) x := ⟨rfl⟩
instance fz1 {os : List O} {ds : List PyData} [h : FzL os ds] : FzC (.lst os) (.list ds) := ⟨by rw [O.fz, h.eq]⟩
instance fz2 {os : List O} {ds : List PyData} [h : FzL os ds] [i : IdxC ds] : FzC (.tup os) (.tuple ds) := ⟨by rw [O.fz, h.eq]; simp only [i.eq]; rfl⟩
instance fl0 : FzL [] [] := ⟨rfl⟩
instance flS {o : O} {x : PyData} {os : List O} {ds : List PyData} [a : FzC o x] [h : FzL os ds] : FzL (o :: os) (x :: ds) := ⟨by rw [O.fzL, a.eq, h.eq]⟩
instance flM {ds : List PyData} : FzL (ds.map O.d) ds := ⟨fzLd ds⟩
/-- data in a row -/
class LtC (o : O) (ds : outParam (List PyData)) : Prop where
  eq : asLT o = some ds
instance lt1 {ds : List PyData} : LtC (.d (.list ds)) ds := ⟨rfl⟩
instance lt2 {ds : List PyData} : LtC (.d (.tuple ds)) ds := ⟨rfl⟩
instance lt4 {ds : List PyData} : LtC (.gT ds) ds := ⟨rfl⟩
instance lt5 {os : List O} {ds : List PyData} [h : AllC os ds] : LtC (.lst os) ds := ⟨asLT_d h.eq⟩
class LsC (o : O) (ds : outParam (List PyData)) : Prop where
  eq : asL o = some ds
instance ls1 {ds : List PyData} : LsC (.d (.list ds)) ds := ⟨rfl⟩
instance ls5 {os : List O} {ds : List PyData} [h : AllC os ds] : LsC (.lst os) ds := ⟨by rw [asL, h.eq]⟩
class NthC (ds : List PyData) (i : Int) (x : outParam PyData) : Prop where
  eq : atI ds i = some x
theorem atI_lit {ds : List PyData} {n : Nat} {x : PyData} (h : ds[n]? = some x) : atI ds (n : Int) = some x := by
  have hl := (List.getElem?_eq_some_iff.mp h).1
  unfold atI ixN
  rw [if_pos (by omega), if_pos (by omega)]
  simp [h]
instance nth0 {a : PyData} {r : List PyData} : NthC (a :: r) 0 a := ⟨atI_lit (n := 0) rfl⟩
instance nth1 {a b : PyData} {r : List PyData} : NthC (a :: b :: r) 1 b := ⟨atI_lit (n := 1) rfl⟩
class StsC (ds : List PyData) (ss : outParam (List Str)) : Prop where
  eq : ds = ss.map PyData.str
instance sts0 : StsC [] [] := ⟨rfl⟩
instance stsS {s : Str} {ds : List PyData} {ss : List Str} [h : StsC ds ss] : StsC (.str s :: ds) (s :: ss) := ⟨by rw [List.map_cons, ← h.eq]⟩
instance stsM {ss : List Str} : StsC (ss.map PyData.str) ss := ⟨rfl⟩
class ItsC (ds : List PyData) (ss : outParam (List Int)) : Prop where
  eq : ds = ss.map PyData.int
class BlsC (ds : List PyData) (ss : outParam (List Bool)) : Prop where
  eq : ds = ss.map PyData.bool
instance blsM {ss : List Bool} : BlsC (ss.map PyData.bool) ss := ⟨rfl⟩
theorem blsOf_map : ∀ ss : List Bool, blsOf (ss.map PyData.bool) = some ss
  | [] => rfl
  | x :: r => by simp [blsOf, blsOf_map r]
theorem intsOf_map : ∀ ss : List Int, intsOf (ss.map PyData.int) = some ss
  | [] => rfl
  | x :: r => by simp [intsOf, intsOf_map r]
theorem strsOf_map : ∀ ss : List Str, strsOf (ss.map PyData.str) = some ss
  | [] => rfl
  | x :: r => by simp [strsOf, strsOf_map r]
def SeqK (b : M Fl) (A : Fl → Gs → Prop) (B : Exn → Gs → Prop) : Fl → Gs → Prop
  | .next, g => Wp (b g) A B
  | .ret o, g => A (.ret o) g
  | .brk, g => A .brk g
  | .cnt, g => A .cnt g
def IfK (b : Bool) (P Q : Prop) : Prop := if b = true then P else Q
theorem IfK.mk {b : Bool} {P Q : Prop} (h1 : b = true → P) (h2 : b = false → Q) : IfK b P Q := by
  cases b
  · exact h2 rfl
  · exact h1 rfl
theorem IfK.dec {p : Prop} [Decidable p] {P Q : Prop} (h1 : p → P) (h2 : ¬ p → Q) : IfK (decide p) P Q := by
  unfold IfK
  split
  · exact h1 (of_decide_eq_true (by assumption))
  · rename_i h
    exact h2 fun p => h (decide_eq_true p)
theorem IfK.t {b : Bool} {P Q : Prop} (h : b = true) (k : P) : IfK b P Q := by subst h; exact k
theorem IfK.f {b : Bool} {P Q : Prop} (h : b = false) (k : Q) : IfK b P Q := by subst h; exact k
theorem IfK.dt {p : Prop} [Decidable p] {P Q : Prop} (h : p) (k : P) : IfK (decide p) P Q := IfK.t (decide_eq_true h) k
theorem IfK.df {p : Prop} [Decidable p] {P Q : Prop} (h : ¬ p) (k : Q) : IfK (decide p) P Q := IfK.f (decide_eq_false h) k
def TstK (A : Bool → Gs → Prop) : O → Gs → Prop
  | .d (.bool b), g => A b g
  | _, _ => False
def RunK (np : Nat) (os : List O) (A : O → List O → Prop) (B : Exn → Prop) : Fl → Gs → Prop
  | .next, g => FW (finF np os (.d .none) g) A B
  | .ret o, g => FW (finF np os o g) A B
  | _, _ => False
def ForK (set : O → M Unit) (body : M Fl) (r : List PyData) (A : Fl → Gs → Prop) (B : Exn → Gs → Prop) : Fl → Gs → Prop
  | .next, g => Wp (forM set body r g) A B
  | .cnt, g => Wp (forM set body r g) A B
  | .brk, g => A .next g
  | .ret o, g => A (.ret o) g
def LcG (vs : List Nat) (set : O → M Unit) (tst : M Bool) (elt : M O) (r : List PyData) (acc : List O) (A : List O → Gs → Prop) (B : Exn → Gs → Prop) (g : Gs) : Prop := Wp (lcM vs set tst elt r acc (wipeG g vs)) A B
def CmpK (A : O → Gs → Prop) (g1 : Gs) (vs : List Nat) (os : List O) (g3 : Gs) : Prop := A (.lst os) (restG g1 vs g3)
def CmpG (vs : List Nat) (set : O → M Unit) (tst : M Bool) (elt : M O) (A : O → Gs → Prop) (ds : List PyData) (g1 : Gs) : Prop := Wp (lcM vs set tst elt ds [] (wipeG g1 vs)) (CmpK A g1 vs) fun _ _ => False
def Bk (A : O → Gs → Prop) (as : List Arg) (k : Nat) (g : Gs) (r : O) (ps : List O) : Prop := ps.length = k ∧ A r (giveA as ps g)
section
variable {α β : Type} {A : O → Gs → Prop} {AB : Bool → Gs → Prop} {AF : Fl → Gs → Prop} {AL : List O → Gs → Prop} {AU : Unit → Gs → Prop} {AR : List Arg → Gs → Prop} {AD : List PyData → Gs → Prop} {B : Exn → Gs → Prop} {g g' g1 g2 g3 : Gs} {m n : M O} {ms : M (List O)} {i k : Nat} {o : O} {os : List O} {a b : M Fl} {c d : M Bool} {P Q : Prop}
instance s_seq : Stp (Wp (seqM a b g) AF B) (Wp (a g) (SeqK b AF B) B) := ⟨fun h => by
  rw [wp_seq]
  exact h.mono (fun fl g1 q => by cases fl <;> exact q) fun _ _ z => z⟩
instance s_seqN : Stp (SeqK b AF B .next g) (Wp (b g) AF B) := ⟨id⟩
instance s_seqR : Stp (SeqK b AF B (.ret o) g) (AF (.ret o) g) := ⟨id⟩
instance s_asg {f : O → M Unit} : Stp (Wp (asgM m f g) AF B) (Wp (m g) (fun o g1 => Wp (f o g1) (fun _ g2 => AF .next g2) B) B) := ⟨fun h => by rw [wp_asg]; exact h⟩
instance s_retM : Stp (Wp (retM m g) AF B) (Wp (m g) (fun o g1 => AF (.ret o) g1) B) := ⟨fun h => by rw [wp_retM]; exact h⟩
instance s_drop : Stp (Wp (dropM m g) AF B) (Wp (m g) (fun o g1 => AF .next g1) B) := ⟨fun h => by rw [wp_drop]; exact h⟩
instance s_if {A : α → Gs → Prop} {m n : M α} : Stp (Wp (ifM c m n g) A B) (Wp (c g) (fun b g1 => IfK b (Wp (m g1) A B) (Wp (n g1) A B)) B) := ⟨fun h => by rw [wp_if]; exact h⟩
instance s_ifT : Stp (IfK true P Q) P := ⟨fun h => h⟩
instance s_ifF : Stp (IfK false P Q) Q := ⟨fun h => h⟩
instance s_ifN {b : Bool} : Stp (IfK (!b) P Q) (IfK b Q P) := ⟨fun h => by cases b <;> exact h⟩
instance s_tst : Stp (Wp (tstM m g) AB B) (Wp (m g) (TstK AB) B) := ⟨fun h => by
  rw [wp_tst]
  exact h.mono (fun o g1 q => by unfold TstK at q; split at q <;> first | exact q | exact q.elim) fun _ _ z => z⟩
instance s_tstB {b : Bool} : Stp (TstK AB (.d (.bool b)) g) (AB b g) := ⟨id⟩
instance s_op {f : List O → Option O} : Stp (Wp (opM f ms g) A B) (Wp (ms g) (fun os g1 => optW (f os) fun o => A o g1) B) := ⟨fun h => by rw [wp_op]; exact h⟩
instance s_cons : Stp (Wp (consM m ms g) AL B) (Wp (m g) (fun o g1 => Wp (ms g1) (fun os g2 => AL (o :: os) g2) B) B) := ⟨fun h => by rw [wp_cons]; exact h⟩
instance s_ret {A : α → Gs → Prop} {x : α} : Stp (Wp (M.ret x g) A B) (A x g) := ⟨id⟩
instance s_bd {C : β → Gs → Prop} {m : M α} {f : α → M β} : Stp (Wp (M.bd m f g) C B) (Wp (m g) (fun x g1 => Wp (f x g1) C B) B) := ⟨fun h => by rw [wp_bd]; exact h⟩
instance s_d {x : PyData} : Stp (Wp (dM x g) A B) (A (.d x) g) := ⟨id⟩
instance s_rd {x : PyData} [h : Get g i (some (.d x))] : Stp (Wp (rdM i g) A B) (A (.d x) g) := ⟨fun k => z_rd h.get k⟩
instance s_pk [h : Get g i (some o)] : Stp (Wp (pkM i g) A B) (A o g) := ⟨fun k => z_pk h.get k⟩
instance s_mv [h : Get g i (some o)] [p : Put g i none g'] : Stp (Wp (mvM i g) A B) (A o g') := ⟨fun k => z_mv h.get p.put k⟩
/-- what is read as data -/
class FzG (g : Gs) (i : Nat) (o : O) (x : outParam PyData) (g' : outParam Gs) : Prop where
  go : ∀ {A : O → Gs → Prop} {B : Exn → Gs → Prop}, g[i]? = some (some o) → A (.d x) g' → Wp (fzM i g) A B
instance fzg0 {x : PyData} : FzG g i (.d x) x g := ⟨fun h k => z_fz h k⟩
instance fzg1 {x : PyData} [f : FzC (.lst os) x] [p : Put g i (some (.d x)) g'] : FzG g i (.lst os) x g' := ⟨fun h k => z_fzL h f.eq p.put k⟩
instance s_fz {x : PyData} [h : Get g i (some o)] [f : FzG g i o x g'] : Stp (Wp (fzM i g) A B) (A (.d x) g') := ⟨fun k => f.go h.get k⟩
instance s_set [p : Put g i (some o) g'] : Stp (Wp (setM i o g) AU B) (AU () g') := ⟨fun k => z_set p.put k⟩
def TupK (A : O → Gs → Prop) (os : List O) (g : Gs) : Prop := lenOk os.length = true ∧ A (mkTup os) g
def LstK (A : O → Gs → Prop) (os : List O) (g : Gs) : Prop := lenOk os.length = true ∧ A (.lst os) g
instance s_tup : Stp (Wp (tupM ms g) A B) (Wp (ms g) (TupK A) B) := ⟨fun h => by rw [wp_tup]; exact h⟩
instance s_tupE [s : SmC os] [t : TupC os o] : Stp (TupK A os g) (A o g) := ⟨fun h => ⟨s.ok, by rw [t.eq]; exact h⟩⟩
instance s_lst : Stp (Wp (lstM ms g) A B) (Wp (ms g) (LstK A) B) := ⟨fun h => by rw [wp_lst]; exact h⟩
instance s_lstE [s : SmC os] : Stp (LstK A os g) (A (.lst os) g) := ⟨fun h => ⟨s.ok, h⟩⟩
instance s_andV : Stp (Wp (andV m n g) A B) (Wp (tstM m g) (fun b g1 => IfK b (Wp (n g1) A B) (A (.d (.bool false)) g1)) B) := ⟨fun h => by rw [wp_andV]; exact h⟩
instance s_orV : Stp (Wp (orV m n g) A B) (Wp (tstM m g) (fun b g1 => IfK b (A (.d (.bool true)) g1) (Wp (n g1) A B)) B) := ⟨fun h => by rw [wp_orV]; exact h⟩
instance s_notV : Stp (Wp (notV m g) A B) (Wp (tstM m g) (fun b g1 => A (.d (.bool (!b))) g1) B) := ⟨fun h => by rw [wp_notV]; exact h⟩
instance s_notZ : Stp (Wp (notZ c g) AB B) (Wp (c g) (fun b g1 => AB (!b) g1) B) := ⟨fun h => by rw [wp_notZ]; exact h⟩
instance s_andZ : Stp (Wp (andZ c d g) AB B) (Wp (c g) (fun b g1 => IfK b (Wp (d g1) AB B) (AB false g1)) B) := ⟨fun h => by rw [wp_andZ]; exact h⟩
instance s_orZ : Stp (Wp (orZ c d g) AB B) (Wp (c g) (fun b g1 => IfK b (AB true g1) (Wp (d g1) AB B)) B) := ⟨fun h => by rw [wp_orZ]; exact h⟩
instance s_valA {ms : M (List Arg)} : Stp (Wp (valA m ms g) AR B) (Wp (m g) (fun o g1 => Wp (ms g1) (fun as g2 => AR (.val o :: as) g2) B) B) := ⟨fun h => by rw [wp_valA]; exact h⟩
instance s_slIn {ms : M (List Arg)} [h : Get g i (some o)] : Stp (Wp (slIn i ms g) AR B) (Wp (ms g) (fun as g2 => AR (.sl i :: as) g2) B) := ⟨fun k => z_sl h.get k⟩
instance s_itD {x : List PyData} : Stp (Wp (itemsM (.d (.list x)) g) AD B) (AD x g) := ⟨fun h => h⟩
instance s_itT {x : List PyData} : Stp (Wp (itemsM (.d (.tuple x)) g) AD B) (AD x g) := ⟨fun h => h⟩
instance s_itS {x : Str} : Stp (Wp (itemsM (.d (.str x)) g) AD B) (AD (signs x) g) := ⟨fun h => h⟩
instance s_itO {ds : List PyData} [h : AllC os ds] : Stp (Wp (itemsM (.lst os) g) AD B) (AD ds g) := ⟨fun k => z_itO h.eq k⟩
instance s_rng1 {x : Int} : Stp (Wp (rng1M [.d (.int x)] g) AD B) (Sd (-4611686018427387904 ≤ x ∧ x < 4611686018427387904) (AD (intsF 0 x.toNat) g)) := ⟨fun h => z_rng1 h.1.1 h.1.2 h.2⟩
instance s_for0 {set : O → M Unit} : Stp (Wp (forM set a [] g) AF B) (AF .next g) := ⟨fun h => h⟩
instance s_forS {set : O → M Unit} {x : PyData} {r : List PyData} : Stp (Wp (forM set a (x :: r) g) AF B) (Wp (set (.d x) g) (fun _ g1 => Wp (a g1) (ForK set a r AF B) B) B) := ⟨fun h => by
  simp only [forM, wp_bd]
  refine h.mono (fun _ g1 q => q.mono (fun fl g2 z => ?_) fun _ _ z => z) fun _ _ z => z
  cases fl <;> exact z⟩
instance s_forN {set : O → M Unit} {r : List PyData} : Stp (ForK set a r AF B .next g) (Wp (forM set a r g) AF B) := ⟨id⟩
instance s_comp {vs : List Nat} {mi : M (List PyData)} {set : O → M Unit} : Stp (Wp (compM vs mi set c m g) A B) (Wp (mi g) (fun ds g1 => Sd (ds.length ≤ 16777216) (CmpG vs set c m A ds g1)) B) := ⟨fun h => by
  rw [wp_comp]
  exact h.mono (fun ds g1 q => ⟨lenOk_of q.1, q.2⟩) fun _ _ z => z⟩
instance s_cmpG {vs : List Nat} {set : O → M Unit} {ds : List PyData} [w : WipC g vs g2] : Stp (CmpG vs set c m A ds g) (Wp (lcM vs set c m ds [] g2) (CmpK A g vs) fun _ _ => False) := ⟨fun h => by
  unfold CmpG
  rw [w.eq]
  exact h⟩
instance s_cmpK {vs : List Nat} [w : RstC g1 vs g3 g'] : Stp (CmpK A g1 vs os g3) (A (.lst os) g') := ⟨fun h => by
  unfold CmpK
  rw [w.eq]
  exact h⟩
instance s_lc0 {vs : List Nat} {set : O → M Unit} : Stp (Wp (lcM vs set c m [] os g) AL B) (AL os g) := ⟨fun h => h⟩
def LcX (vs : List Nat) (set : O → M Unit) (tst : M Bool) (elt : M O) (r : List PyData) (acc : List O) (A : List O → Gs → Prop) (B : Exn → Gs → Prop) (o : O) (g : Gs) : Prop := LcG vs set tst elt r (acc ++ [o]) A B g
instance s_lcS {vs : List Nat} {set : O → M Unit} {x : PyData} {r : List PyData} : Stp (Wp (lcM vs set c m (x :: r) os g) AL B) (Wp (set (.d x) g) (fun _ g1 => Wp (c g1) (fun b g2 => IfK b (Wp (m g2) (LcX vs set c m r os AL B) B) (LcG vs set c m r os AL B g2)) B) B) := ⟨fun h => by
  simp only [lcM, wp_bd]
  refine h.mono (fun _ g1 q => q.mono (fun b g2 z => ?_) fun _ _ z => z) fun _ _ z => z
  cases b with
  | false => exact z
  | true => exact (wp_bd (m := m)).mpr z⟩
instance s_lcX {vs : List Nat} {set : O → M Unit} {r : List PyData} {os' : List O} [p : AppC os [o] os'] : Stp (LcX vs set c m r os AL B o g) (LcG vs set c m r os' AL B g) := ⟨fun h => by
  unfold LcX
  rw [p.eq]
  exact h⟩
instance s_lcG {vs : List Nat} {set : O → M Unit} {r : List PyData} [w : WipC g vs g2] : Stp (LcG vs set c m r os AL B g) (Wp (lcM vs set c m r os g2) AL B) := ⟨fun h => by
  unfold LcG
  rw [w.eq]
  exact h⟩
instance s_yes : Stp (Wp (yesM g) AB B) (AB true g) := ⟨fun h => h⟩
class TakC (as : List Arg) (g : Gs) (os : outParam (List O)) (g' : outParam Gs) : Prop where
  eq : takeA as g = some (os, g')
instance tak0 : TakC [] g [] g := ⟨rfl⟩
instance takV {as : List Arg} [h : TakC as g os g'] : TakC (.val o :: as) g (o :: os) g' := ⟨by rw [takeA, h.eq]⟩
class TakO (as : List Arg) (i : Nat) (o : O) (g : Gs) (os : outParam (List O)) (g' : outParam Gs) : Prop where
  eq : g[i]? = some (some o) → takeA (.sl i :: as) g = some (o :: os, g')
instance takD {as : List Arg} {x : PyData} [t : TakC as g os g'] : TakO as i (.d x) g os g' := ⟨fun h => by rw [takeA, h]; simp only [t.eq]⟩
instance takL {as : List Arg} {x : List O} [p : Put g i none g1] [t : TakC as g1 os g'] : TakO as i (.lst x) g os g' := ⟨fun h => by rw [takeA, h]; simp only [p.put, t.eq]⟩
instance takI {as : List Arg} {s : Str} {x : List (Str × O)} [p : Put g i none g1] [t : TakC as g1 os g'] : TakO as i (.ins s x) g os g' := ⟨fun h => by rw [takeA, h]; simp only [p.put, t.eq]⟩
instance takGL {as : List Arg} {x : List PyData} [p : Put g i none g1] [t : TakC as g1 os g'] : TakO as i (.gL x) g os g' := ⟨fun h => by rw [takeA, h]; simp only [p.put, t.eq]⟩
instance takS {as : List Arg} [h : Get g i (some o)] [t : TakO as i o g os g'] : TakC (.sl i :: as) g (o :: os) g' := ⟨t.eq h.get⟩
class GivC (as : List Arg) (ps : List O) (g : Gs) (g' : outParam Gs) : Prop where
  eq : giveA as ps g = g'
instance giv0 {ps : List O} : GivC [] ps g g := ⟨by cases ps <;> rfl⟩
instance givV {as : List Arg} {ps : List O} {x : O} [h : GivC as ps g g'] : GivC (.val o :: as) (x :: ps) g g' := ⟨by rw [giveA, h.eq]⟩
class GivO (i : Nat) (o : O) (p : Option O) (g : Gs) (g' : outParam Gs) : Prop where
  eq : g[i]? = some p → (match g[i]? with | some none => g.set i (some o) | _ => g) = g'
instance givN [p : Put g i (some o) g'] : GivO i o none g g' := ⟨fun h => by rw [h]; exact p.put⟩
instance givSm {p : O} : GivO i o (some p) g g := ⟨fun h => by rw [h]⟩
instance givS {as : List Arg} {ps : List O} {p : Option O} [h : Get g i p] [q : GivO i o p g g1] [r : GivC as ps g1 g'] : GivC (.sl i :: as) (o :: ps) g g' := ⟨Eq.trans (show giveA (.sl i :: as) (o :: ps) g = giveA as ps g1 from congrArg (giveA as ps) (q.eq h.get)) r.eq⟩
instance s_call {f : Fn} {dfs : List PyData} {ms : M (List Arg)} : Stp (Wp (callM f dfs ms g) A B) (Wp (ms g) (fun as g1 => Cw f dfs A B as g1) B) := ⟨fun k => z_call k⟩
theorem takeA_len : ∀ {as : List Arg} {g g' : Gs} {os : List O}, takeA as g = some (os, g') → os.length = as.length
  | [], _, _, _, h => by simp only [takeA, Option.some.injEq, Prod.mk.injEq] at h; rw [← h.1]; rfl
  | .val o :: r, g, g', os, h => by
    simp only [takeA] at h
    split at h
    · rename_i q
      simp only [Option.some.injEq, Prod.mk.injEq] at h
      rw [← h.1, List.length_cons, List.length_cons, takeA_len q]
    · cases h
  | .sl i :: r, g, g', os, h => by
    simp only [takeA] at h
    split at h
    · split at h
      · rename_i q
        simp only [Option.some.injEq, Prod.mk.injEq] at h
        rw [← h.1, List.length_cons, List.length_cons, takeA_len q]
      · cases h
    · split at h
      · rename_i q
        simp only [Option.some.injEq, Prod.mk.injEq] at h
        rw [← h.1, List.length_cons, List.length_cons, takeA_len q]
      · cases h
    · cases h
theorem giveA_take : ∀ {as : List Arg} {ps : List O} {g : Gs}, giveA as (ps.take as.length) g = giveA as ps g
  | [], ps, g => by cases ps <;> simp [giveA]
  | .val o :: r, [], g => rfl
  | .val o :: r, p :: ps, g => by simp only [List.length_cons, List.take_succ_cons, giveA, giveA_take (as := r)]
  | .sl i :: r, [], g => rfl
  | .sl i :: r, p :: ps, g => by simp only [List.length_cons, List.take_succ_cons, giveA, giveA_take (as := r)]
class DfsC (os : List O) (dfs : List PyData) (os' : outParam (List O)) : Prop where
  eq : os ++ dfs.map O.d = os'
instance dfs0 : DfsC os [] os := ⟨by simp⟩
instance s_cw {f : Fn} {dfs : List PyData} {as : List Arg} {os' : List O} [t : TakC as g os g'] [d : DfsC os dfs os'] [l : LenC os' k] : Stp (Cw f dfs A B as g) (FW (f os') (Bk A as k g') (fun x => B x g')) := ⟨fun h =>
  z_cw t.eq d.eq (h.mono (fun r ps q => by
    refine ⟨l.eq ▸ q.1, ?_⟩
    rw [takeA_len t.eq, giveA_take]
    exact q.2) fun _ z => z)⟩
instance s_bk {as : List Arg} {ps : List O} {r : O} [l : LenC ps k] [q : GivC as ps g g'] : Stp (Bk A as k g r ps) (A r g') := ⟨fun h => ⟨l.eq, by rw [q.eq]; exact h⟩⟩
class TopC (np : Nat) (g : Gs) (ps : outParam (List O)) : Prop where
  eq : optAll (g.take np) = some ps
instance top0 : TopC 0 g [] := ⟨by simp [optAll]⟩
instance topS {ps : List O} [h : TopC k g ps] : TopC (k + 1) (some o :: g) (o :: ps) := ⟨by simp only [List.take_succ_cons, optAll, h.eq]⟩
class DrpC (np : Nat) (os : List O) (os' : outParam (List O)) : Prop where
  eq : os.drop np = os'
instance drp0 : DrpC 0 os os := ⟨rfl⟩
instance drpS {os' : List O} [h : DrpC k os os'] : DrpC (k + 1) (o :: os) os' := ⟨by rw [List.drop_succ_cons, h.eq]⟩
instance s_fin {np : Nat} {ps dr rs : List O} {A : O → List O → Prop} {B : Exn → Prop} [t : TopC np g ps] [d : DrpC np os dr] [p : AppC ps dr rs] : Stp (FW (finF np os o g) A B) (A o rs) := ⟨fun h => z_fin t.eq (by rw [d.eq, p.eq]; exact h)⟩
instance s_runN {np : Nat} {A : O → List O → Prop} {B : Exn → Prop} : Stp (RunK np os A B .next g) (FW (finF np os (.d .none) g) A B) := ⟨id⟩
instance s_runR {np : Nat} {A : O → List O → Prop} {B : Exn → Prop} : Stp (RunK np os A B (.ret o) g) (FW (finF np os o g) A B) := ⟨id⟩
class RunC (na nN : Nat) (os : List O) (g : outParam Gs) : Prop where
  len : os.length = na
  eq : os.map some ++ List.replicate (nN - na) none = g
instance run00 : RunC 0 0 [] [] := ⟨rfl, rfl⟩
instance run0S [h : RunC 0 k [] g] : RunC 0 (k + 1) [] (none :: g) := ⟨rfl, by
  have := h.eq
  simp only [List.map_nil, Nat.sub_zero, List.nil_append] at this ⊢
  rw [List.replicate_succ, this]⟩
instance runSS {na nN : Nat} [h : RunC na nN os g] : RunC (na + 1) (nN + 1) (o :: os) (some o :: g) := ⟨by rw [List.length_cons, h.len], by
  have := h.eq
  rw [Nat.add_sub_add_right, List.map_cons, List.cons_append, this]⟩
class AdC (os : List O) : Prop where
  eq : os.all isD = true
instance ad0 : AdC [] := ⟨rfl⟩
instance adS {x : PyData} [h : AdC os] : AdC (.d x :: os) := ⟨by rw [List.all_cons, h.eq]; rfl⟩
theorem fwRun {np na nN : Nat} {dr : List O} {mf : M Fl} {A : O → List O → Prop} {B : Exn → Prop} [r : RunC na nN os g] [d : DrpC np os dr] [e : AdC dr] (k : Wp (mf g) (RunK np os A B) (fun x _ => B x)) : FW (runF np na nN mf os) A B :=
  z_run r.len (by rw [d.eq]; exact e.eq) r.eq (k.mono (fun fl g q => by cases fl <;> exact q) fun _ _ z => z)
instance s_run {np na nN : Nat} {dr : List O} {mf : M Fl} {A : O → List O → Prop} {B : Exn → Prop} [r : RunC na nN os g] [d : DrpC np os dr] [e : AdC dr] : Stp (FW (runF np na nN mf os) A B) (Wp (mf g) (RunK np os A B) (fun x _ => B x)) := ⟨fun k => fwRun k⟩
variable {AO : O → Prop} {x y : Int} {s t : Str} {ds es : List PyData}
instance o_addI : Stp (optW (addF [.d (.int x), .d (.int y)]) AO) (AO (.d (.int (x + y)))) := ⟨id⟩
instance o_addS : Stp (optW (addF [.d (.str s), .d (.str t)]) AO) (Sd (s.length + t.length ≤ 16777216) (AO (.d (.str (s ++ t))))) := ⟨fun h => z_addS h.1 h.2⟩
instance o_addLL {p q : List O} [a : AllC p ds] [b : AllC q es] {ps : List PyData} {po : List O} [pa : AppC ds es ps] [pm : MpC ps po] : Stp (optW (addF [.lst p, .lst q]) AO) (Sd (ds.length + es.length ≤ 16777216) (AO (.lst po))) := ⟨fun h => z_addLL a.eq b.eq h.1 (by rw [pa.eq, pm.eq]; exact h.2)⟩
instance o_addDL {q : List O} [b : AllC q es] {ps : List PyData} {po : List O} [pa : AppC ds es ps] [pm : MpC ps po] : Stp (optW (addF [.d (.list ds), .lst q]) AO) (Sd (ds.length + es.length ≤ 16777216) (AO (.lst po))) := ⟨fun h => z_addDL b.eq h.1 (by rw [pa.eq, pm.eq]; exact h.2)⟩
instance o_subI : Stp (optW (subF [.d (.int x), .d (.int y)]) AO) (AO (.d (.int (x - y)))) := ⟨id⟩
instance o_mulI : Stp (optW (mulF [.d (.int x), .d (.int y)]) AO) (Sd (mulC x y = true) (AO (.d (.int (x * y))))) := ⟨fun h => z_mulI h.1 h.2⟩
instance o_modI : Stp (optW (modF [.d (.int x), .d (.int y)]) AO) (Sd (0 < y) (AO (.d (.int (x % y))))) := ⟨fun h => z_modI h.1 h.2⟩
instance o_powI : Stp (optW (powF [.d (.int x), .d (.int y)]) AO) (Sd (powC x y = true) (AO (.d (.int (x ^ y.toNat))))) := ⟨fun h => z_powI h.1 h.2⟩
theorem powC_of {x y : Int} (h : 0 ≤ y ∧ y ≤ 1000000 ∧ x.natAbs < 18446744073709551616) : powC x y = true := by simp [powC, h.1, h.2.1, h.2.2]
instance o_ltI : Stp (optW (ltF [.d (.int x), .d (.int y)]) AO) (AO (.d (.bool (decide (x < y))))) := ⟨id⟩
instance o_leI : Stp (optW (leF [.d (.int x), .d (.int y)]) AO) (AO (.d (.bool (decide (x ≤ y))))) := ⟨id⟩
instance o_gtI : Stp (optW (gtF [.d (.int x), .d (.int y)]) AO) (AO (.d (.bool (decide (y < x))))) := ⟨id⟩
instance o_maxI : Stp (optW (max2F [.d (.int x), .d (.int y)]) AO) (AO (.d (.int (max x y)))) := ⟨fun h => z_maxI h⟩
instance o_minI : Stp (optW (min2F [.d (.int x), .d (.int y)]) AO) (AO (.d (.int (min x y)))) := ⟨fun h => z_minI h⟩
theorem beqd {α : Type} [BEq α] [LawfulBEq α] [DecidableEq α] {x y : α} : (x == y) = decide (x = y) := by
  by_cases h : x = y
  · subst h; simp
  · rw [decide_eq_false h]; simpa using h
instance o_eqI : Stp (optW (eqF [.d (.int x), .d (.int y)]) AO) (AO (.d (.bool (decide (x = y))))) := ⟨fun h => z_eqI (by rw [beqd]; exact h)⟩
instance o_neI : Stp (optW (neF [.d (.int x), .d (.int y)]) AO) (AO (.d (.bool (!decide (x = y))))) := ⟨fun h => z_neI (by rw [beqd]; exact h)⟩
instance o_eqS : Stp (optW (eqF [.d (.str s), .d (.str t)]) AO) (AO (.d (.bool (decide (s = t))))) := ⟨fun h => z_eqS (by rw [beqd]; exact h)⟩
instance o_lenS : Stp (optW (lenF [.d (.str s)]) AO) (Sd (s.length ≤ 16777216) (AO (.d (.int s.length)))) := ⟨fun h => z_lenS h.1 h.2⟩
instance o_lenG : Stp (optW (lenF [.gL ds]) AO) (AO (.d (.int ds.length))) := ⟨id⟩
instance o_lenL : Stp (optW (lenF [.d (.list ds)]) AO) (AO (.d (.int ds.length))) := ⟨id⟩
instance o_lenT : Stp (optW (lenF [.d (.tuple ds)]) AO) (AO (.d (.int ds.length))) := ⟨id⟩
instance o_lenO : Stp (optW (lenF [.lst os]) AO) (AO (.d (.int os.length))) := ⟨id⟩
instance o_slHi : Stp (optW (slF false true [.d (.str s), .d (.int x)]) AO) (Sd (s.length ≤ 16777216) (AO (.d (.str (cutS s none (some x)))))) := ⟨fun h => z_slHi h.1 h.2⟩
instance o_slLo : Stp (optW (slF true false [.d (.str s), .d (.int x)]) AO) (Sd (s.length ≤ 16777216) (AO (.d (.str (cutS s (some x) none))))) := ⟨fun h => z_slLo h.1 h.2⟩
instance o_slLoT {x : Int} : Stp (optW (slF true false [.d (.tuple ds), .d (.int x)]) AO) (AO (.d (.tuple (cutD ds (some x) none)))) := ⟨fun h => h⟩
instance o_slLoL {x : Int} [a : LsC o ds] : Stp (optW (slF true false [o, .d (.int x)]) AO) (AO (.lst ((cutD ds (some x) none).map O.d))) := ⟨fun h => by
  have e : slF true false [o, .d (.int x)] = some (.lst ((cutD ds (some x) none).map O.d)) := by
    have := a.eq
    cases o with
    | d z => cases z <;> first | (simp [asL] at this; done) | simp [slF, slB, this]
    | _ => first | (simp [asL] at this; done) | simp [slF, slB, this]
  rw [e]; exact h⟩
instance o_slHiL {x : Int} [a : LsC o ds] : Stp (optW (slF false true [o, .d (.int x)]) AO) (AO (.lst ((cutD ds none (some x)).map O.d))) := ⟨fun h => by
  have e : slF false true [o, .d (.int x)] = some (.lst ((cutD ds none (some x)).map O.d)) := by
    have := a.eq
    cases o with
    | d z => cases z <;> first | (simp [asL] at this; done) | simp [slF, slB, this]
    | _ => first | (simp [asL] at this; done) | simp [slF, slB, this]
  rw [e]; exact h⟩
instance o_slB {l r : Option Int} : Stp (optW (slB (.d (.str s)) l r) AO) (Sd (s.length ≤ 16777216) (AO (.d (.str (cutS s l r))))) := ⟨fun h => z_slB h.1 h.2⟩
instance o_ix {z : PyData} [l : LtC o ds] [q : NthC ds x z] : Stp (optW (ixF [o, .d (.int x)]) AO) (AO (.d z)) := ⟨fun h => by
  have e : ixF [o, .d (.int x)] = some (.d z) := by
    have h1 := l.eq
    have h2 := q.eq
    unfold ixF
    split
    · rename_i e
      simp only [List.cons.injEq, O.d.injEq, PyData.int.injEq, and_true] at e
      obtain ⟨rfl, rfl⟩ := e
      simp [asLT, asL, asT] at h1
    · rename_i e
      simp only [List.cons.injEq, O.d.injEq, PyData.int.injEq, and_true] at e
      obtain ⟨rfl, rfl⟩ := e
      simp only [h1, h2]
    · rename_i h0 _
      first | exact absurd rfl (h0 _ _) | simp_all
  rw [e]; exact h⟩
theorem eqv_str {s t : Str} : PyData.eqv (.str s) (.str t) = decide (s = t) := by
  rw [← beqd]; rfl
theorem any_str {t : Str} : ∀ {ss : List Str}, ((ss.map PyData.str).any fun z => PyData.eqv z (.str t)) = decide (t ∈ ss)
  | [] => by simp
  | s :: r => by
    rw [List.map_cons, List.any_cons, any_str, eqv_str]
    by_cases h : s = t
    · simp [h]
    · have h' : ¬ t = s := fun e => h e.symm
      simp [h, h']
theorem flat_str : ∀ {ss : List Str}, (ss.map PyData.str).all flatD = true
  | [] => rfl
  | s :: r => by rw [List.map_cons, List.all_cons, flat_str]; rfl
theorem o_inSG {ss : List Str} {neg : Bool} [l : LtC o ds] [q : StsC ds ss] (h : AO (.d (.bool (if neg then !decide (t ∈ ss) else decide (t ∈ ss))))) : optW (inF neg [.d (.str t), o]) AO := by
  refine z_in (b := decide (t ∈ ss)) ?_ h
  have h1 := l.eq
  have h2 : inB (.d (.str t)) o = match asLT o with
    | some ds => if flatD (.str t) = true ∧ ds.all flatD = true then some (ds.any fun z => PyData.eqv z (.str t)) else none
    | none => none := by
    cases o with
    | d z => cases z <;> first | (simp [asLT, asL, asT] at h1; done) | rfl
    | _ => first | (simp [asLT, asL, asT] at h1; done) | rfl
  rw [h2, h1, q.eq]
  simp only [flat_str, any_str]
  rfl
instance o_inS {ss : List Str} [l : LtC o ds] [q : StsC ds ss] : Stp (optW (inF false [.d (.str t), o]) AO) (AO (.d (.bool (decide (t ∈ ss))))) := ⟨fun h => o_inSG (neg := false) h⟩
instance o_ninS {ss : List Str} [l : LtC o ds] [q : StsC ds ss] : Stp (optW (inF true [.d (.str t), o]) AO) (AO (.d (.bool (!decide (t ∈ ss))))) := ⟨fun h => o_inSG (neg := true) h⟩
instance o_all {is : List Bool} [l : LsC o ds] [q : BlsC ds is] : Stp (optW (allF [o]) AO) (AO (.d (.bool (is.all id)))) := ⟨fun h => by
  have e : allF [o] = some (.d (.bool (is.all id))) := by simp only [allF, l.eq, q.eq, blsOf_map]
  rw [e]; exact h⟩
instance o_intB {b : Bool} : Stp (optW (intF [.d (.bool b)]) AO) (AO (.d (.int (if b then 1 else 0)))) := ⟨id⟩
instance o_tupF [l : LsC o ds] : Stp (optW (tupF [o]) AO) (AO (.d (.tuple ds))) := ⟨fun h => by
  have e : tupF [o] = some (.d (.tuple ds)) := by simp only [tupF, l.eq]
  rw [e]; exact h⟩
instance o_lstF [l : LtC o ds] [pm : MpC ds os] : Stp (optW (lstF [o]) AO) (AO (.lst os)) := ⟨fun h => by
  rw [← pm.eq] at h
  have e : lstF [o] = some (.lst (ds.map O.d)) := by simp only [lstF, l.eq]
  rw [e]; exact h⟩
end
end Z
namespace Z
open PySem PySem.Spec L2
theorem cutD_lo {α : Type} (xs : List α) (k : Nat) : cutD xs (some (k : Int)) none = xs.drop k := by
  unfold cutD
  rw [HT.sIx_none, HT.sIx_nat]
  have h : xs.drop (min k xs.length) = xs.drop k := by
    by_cases h : k ≤ xs.length
    · rw [Nat.min_eq_left h]
    · rw [Nat.min_eq_right (by omega), List.drop_eq_nil_of_le (by omega), List.drop_eq_nil_of_le (by omega)]
  rw [h]
  apply List.take_of_length_le
  rw [List.length_drop]
  omega
class CutC {α : Type} (xs : List α) (lo hi : Option Int) (ys : outParam (List α)) : Prop where
  eq : cutD xs lo hi = ys
instance cut1 {α : Type} {a : α} {r : List α} : CutC (a :: r) (some 1) none r := ⟨cutD_lo _ 1⟩
section
variable {A : O → Gs → Prop} {AF : Fl → Gs → Prop} {B : Exn → Gs → Prop} {g g' : Gs} {m n : M O} {i : Nat} {o : O} {os : List O} {a b : M Fl} {AO : O → Prop} {x : Int} {ds es : List PyData}
instance (priority := 1100) o_slLoT' [c : CutC ds (some x) none es] : Stp (optW (slF true false [.d (.tuple ds), .d (.int x)]) AO) (AO (.d (.tuple es))) := ⟨fun h => o_slLoT.go (by rw [c.eq]; exact h)⟩
instance (priority := 1100) o_slLoL' [l : LsC o ds] [c : CutC ds (some x) none es] [pm : MpC es os] : Stp (optW (slF true false [o, .d (.int x)]) AO) (AO (.lst os)) := ⟨fun h => o_slLoL.go (by rw [c.eq, pm.eq]; exact h)⟩
def JnK (I : Gs → Prop) (A : Fl → Gs → Prop) : Fl → Gs → Prop
  | .next, g => I g
  | .ret o, g => A (.ret o) g
  | .brk, g => A .brk g
  | .cnt, g => A .cnt g
instance s_jnN {I : Gs → Prop} : Stp (JnK I AF .next g) (I g) := ⟨id⟩
instance s_jnR {I : Gs → Prop} : Stp (JnK I AF (.ret o) g) (AF (.ret o) g) := ⟨id⟩
/-- what holds behind the first statement, however it was left -/
theorem wp_jn (I : Gs → Prop) (h1 : Wp (a g) (JnK I AF) B) (h2 : ∀ g, I g → Wp (b g) AF B) : Wp (seqM a b g) AF B := by
  refine Stp.go (h1.mono (fun fl g q => ?_) fun _ _ z => z)
  cases fl with
  | next => exact h2 g q
  | ret o => exact q
  | brk => exact q
  | cnt => exact q
theorem isJn {c : M Bool} {p q : M Fl} (h : Wp (seqM (ifM c p q) a g) AF B) : Wp (seqM (ifM c p q) a g) AF B := h
def AppK (i : Nat) (A : O → Gs → Prop) (o : O) (g : Gs) : Prop := ∃ os1, g[i]? = some (some (.lst os1)) ∧ os1.length < 16777216 ∧ A (.d .none) (g.set i (some (.lst (os1 ++ [o]))))
instance s_app [h : Get g i (some (.lst os))] : Stp (Wp (appLM i m g) A B) (Wp (m g) (AppK i A) B) := ⟨fun k => z_app h.get k⟩
class SnC (os : List O) (o : O) (os' : outParam (List O)) : Prop where
  eq : os ++ [o] = os'
instance sn0 : SnC [] o [o] := ⟨rfl⟩
instance snS {p : O} {os' : List O} [h : SnC os o os'] : SnC (p :: os) o (p :: os') := ⟨by rw [List.cons_append, h.eq]⟩
instance s_appK {os' : List O} [h : Get g i (some (.lst os))] [s : SnC os o os'] [p : Put g i (some (.lst os')) g'] : Stp (AppK i A o g) (Sd (os.length < 16777216) (A (.d .none) g')) := ⟨fun k => ⟨os, h.get, k.1, by rw [s.eq, p.put]; exact k.2⟩⟩
def PopK (i : Nat) (A : O → Gs → Prop) : O → Gs → Prop
  | .d (.int x), g1 => ∃ os1 j o, g1[i]? = some (some (.lst os1)) ∧ (-9223372036854775808 ≤ x ∧ x < 9223372036854775808) ∧ seqIndex? x os1.length = some j ∧ os1[j]? = some o ∧ A o (g1.set i (some (.lst (os1.eraseIdx j))))
  | _, _ => False
instance s_popL [h : Get g i (some (.lst os))] : Stp (Wp (popLM i m g) A B) (Wp (m g) (PopK i A) B) := ⟨fun k => z_popAt h.get (k.mono (fun o g1 q => by cases o with
  | d z => cases z <;> exact q
  | _ => exact q) fun _ _ z => z)⟩
instance s_popK0 {p : O} [h : Get g i (some (.lst (p :: os)))] [q : Put g i (some (.lst os)) g'] : Stp (PopK i A (.d (.int 0)) g) (A p g') := ⟨fun k => ⟨p :: os, 0, p, h.get, by omega, by simp [seqIndex?], rfl, by rw [List.eraseIdx_zero, List.tail_cons, q.put]; exact k⟩⟩
def IsK (i : Nat) (o : O) (AU : Unit → Gs → Prop) : O → Gs → Prop
  | .d (.int x), g => ∃ os j, g[i]? = some (some (.lst os)) ∧ ixN os.length x = some j ∧ AU () (g.set i (some (.lst (os.set j o))))
  | _, _ => False
variable {AU : Unit → Gs → Prop}
instance s_ixSet {p : O} [h : Get g i (some p)] : Stp (Wp (ixSetM i m o g) AU B) (Wp (m g) (IsK i o AU) B) := ⟨fun k => by
  unfold ixSetM
  rw [h.get]
  unfold ixSet1
  refine (wp_bd (m := m)).mpr (k.mono (fun oi g1 q => ?_) fun _ _ z => z)
  refine (wp_bd (m := asI oi)).mpr ?_
  rw [wp_asI]
  unfold IsK at q
  split at q
  · obtain ⟨os, j, e1, e2, q⟩ := q
    simp only [e1, e2]
    exact q
  · exact q.elim⟩
class SetC (os : List O) (x : Int) (o : O) (os' : outParam (List O)) : Prop where
  eq : ∃ j, ixN os.length x = some j ∧ os.set j o = os'
instance sIt0 {p : O} : SetC (p :: os) 0 o (o :: os) := ⟨0, by simp [ixN], rfl⟩
instance sIt1 {p q : O} : SetC (p :: q :: os) 1 o (p :: o :: os) := ⟨1, by simp [ixN]; omega, rfl⟩
instance s_isK {os' : List O} [h : Get g i (some (.lst os))] [s : SetC os x o os'] [p : Put g i (some (.lst os')) g'] : Stp (IsK i o AU (.d (.int x)) g) (AU () g') := ⟨fun k => by
  obtain ⟨j, e1, e2⟩ := s.eq
  exact ⟨os, j, h.get, e1, by rw [e2, p.put]; exact k⟩⟩
variable {s : Str}
def AsSK (A : Str → Gs → Prop) : O → Gs → Prop
  | .d (.str x), g => A x g
  | _, _ => False
instance s_asSK {A : Str → Gs → Prop} : Stp (AsSK A (.d (.str s)) g) (A s g) := ⟨id⟩
def AsIK (A : Int → Gs → Prop) : O → Gs → Prop
  | .d (.int x), g => A x g
  | _, _ => False
instance s_asIK {A : Int → Gs → Prop} : Stp (AsIK A (.d (.int x)) g) (A x g) := ⟨id⟩
instance s_join : Stp (Wp (joinM m n g) A B) (Wp (m g) (AsSK fun s g1 => Wp (n g1) (fun o g2 => optW (joinB s o) fun r => A r g2) B) B) := ⟨fun k => by
  unfold joinM
  refine (wp_bd (m := m)).mpr (k.mono (fun oi g1 q => ?_) fun _ _ z => z)
  refine (wp_bd (m := asS oi)).mpr ?_
  rw [wp_asS]
  unfold AsSK at q
  split at q
  · refine (wp_bd (m := n)).mpr (q.mono (fun o g2 q => ?_) fun _ _ z => z)
    rw [wp_opt]
    exact q
  · exact q.elim⟩
instance o_join {ss : List Str} [l : LtC o ds] [q : StsC ds ss] : Stp (optW (joinB s o) AO) (Sd ((ss.map (·.length)).sum + ss.length * s.length ≤ 16777216) (AO (.d (.str (Txt.join s ss))))) := ⟨fun k => by
  have e : joinB s o = some (.d (.str (Txt.join s ss))) := by
    have := lenOk_of k.1
    simp only [joinB, l.eq, q.eq, strsOf_map, this, if_true]
  rw [e]
  exact k.2⟩
class IsiC (n : String) (o : O) (b : outParam Bool) : Prop where
  ne : tyN o ≠ ""
  eq : kitB (tyN o) n = some b
theorem kit2 : kitB "int" "bool" = some false := by decide +kernel
instance isi2 : IsiC "bool" (.d (.int x)) false := ⟨by simp [tyN], kit2⟩
def IsiK (n : String) (A : O → Gs → Prop) (o : O) (g : Gs) : Prop := tyN o ≠ "" ∧ optW (kitB (tyN o) n) fun b => A (.d (.bool b)) g
instance s_isi {nm : String} : Stp (Wp (isiM nm m g) A B) (Wp (m g) (IsiK nm A) B) := ⟨fun k => by
  rw [wp_isi]
  exact k⟩
instance s_isiK {nm : String} {b : Bool} [c : IsiC nm o b] : Stp (IsiK nm A o g) (A (.d (.bool b)) g) := ⟨fun k => ⟨c.ne, by rw [c.eq]; exact k⟩⟩
end
end Z
namespace Z
open PySem PySem.Spec L2
abbrev NoB : Exn → Gs → Prop := fun _ _ => False
def ForI {ι : Type} (I : List ι → Gs → Prop) (r : List ι) (A : Fl → Gs → Prop) : Fl → Gs → Prop
  | .next, g => I r g
  | .cnt, g => I r g
  | .brk, g => A .next g
  | .ret o, g => A (.ret o) g
def WhI (I : Nat → Gs → Prop) (k : Nat) (A : Fl → Gs → Prop) : Fl → Gs → Prop
  | .next, g => ∃ j, j < k ∧ I j g
  | .cnt, g => ∃ j, j < k ∧ I j g
  | .brk, g => A .next g
  | .ret o, g => A (.ret o) g
section
variable {ι : Type} {AF : Fl → Gs → Prop} {AL : List O → Gs → Prop} {B : Exn → Gs → Prop} {g g' : Gs} {m : M O} {o : O} {os : List O} {a : M Fl} {c : M Bool} {set : O → M Unit} {vs : List Nat}
instance s_foN {I : List ι → Gs → Prop} {r : List ι} : Stp (ForI I r AF .next g) (I r g) := ⟨id⟩
instance s_foR {I : List ι → Gs → Prop} {r : List ι} : Stp (ForI I r AF (.ret o) g) (AF (.ret o) g) := ⟨id⟩
instance s_whN {I : Nat → Gs → Prop} {k : Nat} : Stp (WhI I k AF .next g) (∃ j, j < k ∧ I j g) := ⟨id⟩
instance s_whR {I : Nat → Gs → Prop} {k : Nat} : Stp (WhI I k AF (.ret o) g) (AF (.ret o) g) := ⟨id⟩
/-- a walk over a row of things -/
theorem wp_forI (e : ι → PyData) (I : List ι → Gs → Prop)
    (he : ∀ g, I [] g → AF .next g)
    (hs : ∀ x r g, I (x :: r) g → Wp (set (.d (e x)) g) (fun _ g1 => Wp (a g1) (ForI I r AF) B) B) : ∀ {l : List ι} {g : Gs}, I l g → Wp (forM set a (l.map e) g) AF B
  | [], g, h => he g h
  | x :: r, g, h => by
    rw [List.map_cons]
    refine Stp.go ((hs x r g h).mono (fun _ g1 q => q.mono (fun fl g2 z => ?_) fun _ _ z => z) fun _ _ z => z)
    cases fl with
    | next => exact wp_forI e I he hs z
    | cnt => exact wp_forI e I he hs z
    | brk => exact z
    | ret o => exact z
theorem wp_whI (I : Nat → Gs → Prop)
    (hs : ∀ k g, I k g → Wp (c g) (fun b g1 => IfK b (Wp (a g1) (WhI I k AF) B) (AF .next g1)) B) {n k : Nat} {g : Gs} (hk : k < n) (h : I k g) : Wp (whM c a n g) AF B :=
  wp_while I (fun k g q => (hs k g q).mono (fun b g1 z => by
    cases b with
    | false => exact z
    | true => exact Wp.mono z (fun fl g2 z => by cases fl <;> exact z) fun _ _ z => z) fun _ _ z => z) n k g hk h
/-- a comprehension that changes no name but the box: what comes are things of a kind -/
def LcB {κ : Type} (e : κ → PyData) (P : κ → Prop) (G : Gs → Prop) (vs : List Nat) (o : O) (g : Gs) : Prop := ∃ z, o = .d (e z) ∧ P z ∧ G (wipeG g vs)
theorem wp_lcB {κ : Type} (e : κ → PyData) (P : κ → Prop) (G : Gs → Prop) (he : ∀ (l : List κ) g, l.length = ds.length → (∀ z ∈ l, P z) → G g → AL ((l.map e).map O.d) g)
    (hs : ∀ d ∈ ds, ∀ g, G g → Wp (set (.d d) g) (fun _ g1 => Wp (c g1) (fun b g2 => IfK b (Wp (m g2) (LcB e P G vs) NoB) False) NoB) NoB) {g : Gs} (h : G g) : Wp (lcM vs set c m ds [] g) AL NoB := by
  have main : ∀ (r : List PyData) (l : List κ) (g : Gs), (∀ d ∈ r, d ∈ ds) → l.length + r.length = ds.length → (∀ z ∈ l, P z) → G g → Wp (lcM vs set c m r ((l.map e).map O.d) g) AL NoB := by
    intro r
    induction r with
    | nil => exact fun l g _ hl hp hg => he l g (by simpa using hl) hp hg
    | cons x r ih =>
      intro l g hm hl hp hg
      refine Stp.go ((hs x (hm x (by simp)) g hg).mono (fun _ g1 q => q.mono (fun b g2 z => ?_) fun _ _ z => z) fun _ _ z => z)
      cases b with
      | false => exact z.elim
      | true =>
        refine Wp.mono z (fun o g3 z => ?_) fun _ _ z => z
        obtain ⟨w, rfl, hw, hg3⟩ := z
        have := ih (l ++ [w]) (wipeG g3 vs) (fun d m => hm d (by simp [m])) (by simp at hl ⊢; omega) (by simpa [or_imp, forall_and] using ⟨hp, hw⟩) hg3
        simpa [LcX, LcG] using this
  exact main ds [] g (fun d m => m) (by simp) (by simp) h
/-- a comprehension that changes nothing: each thing looked at by itself -/
def LcP (o' : O) (g0 : Gs) (vs : List Nat) (o : O) (g : Gs) : Prop := o = o' ∧ wipeG g vs = g0
instance s_lcP {o : O} [w : WipC g vs g'] : Stp (LcP o g' vs o g) True := ⟨fun _ => ⟨rfl, w.eq⟩⟩
theorem wp_lcF (e : ι → PyData) (f : ι → O) : ∀ {l : List ι} {acc : List O} {g : Gs}
    (hs : ∀ x ∈ l, Wp (set (.d (e x)) g) (fun _ g1 => Wp (c g1) (fun b g2 => IfK b (Wp (m g2) (LcP (f x) g vs) NoB) False) NoB) NoB)
    (k : AL (acc ++ l.map f) g), Wp (lcM vs set c m (l.map e) acc g) AL NoB
  | [], acc, g, hs, k => by
    show AL acc g
    simpa using k
  | x :: r, acc, g, hs, k => by
    rw [List.map_cons]
    refine Stp.go ((hs x (by simp)).mono (fun _ g1 q => q.mono (fun b g2 z => ?_) fun _ _ z => z) fun _ _ z => z)
    cases b with
    | false => exact z.elim
    | true =>
      refine Wp.mono z (fun o g3 z => ?_) fun _ _ z => z
      obtain ⟨rfl, e3⟩ := z
      show Wp (lcM vs set c m (r.map e) (acc ++ [f x]) (wipeG g3 vs)) AL NoB
      rw [e3]
      exact wp_lcF e f (fun y hy => hs y (by simp [hy])) (by simpa using k)
end
end Z
namespace Z
open PySem PySem.Spec L2
def L (s : Str) : List Nat := s.cps.toList
theorem L_len (s : Str) : (L s).length = s.length := by simp [L, Str.length]
theorem L_app (s t : Str) : L (s ++ t) = L s ++ L t := by
  show (s.cps ++ t.cps).toList = _
  simp [L]
theorem L_ext {s t : Str} (h : L s = L t) : s = t := by
  cases s; cases t
  simpa [L] using h
theorem L_one (c : Nat) : L ⟨#[c]⟩ = [c] := rfl
theorem L_cut (s : Str) (lo hi : Option Int) : L (cutS s lo hi) = cutD (L s) lo hi := by
  simp [L, cutS, cutD, Str.length]
theorem L_join (s : Str) : ∀ l : List Str, L (Txt.join s l) = ((l.map L).intersperse (L s)).flatten := by
  intro l
  show L (Builtin.Str.glued s l) = _
  rw [StrLaws.glued_eq_join]
  induction l with
  | nil => rfl
  | cons a r ih =>
    cases r with
    | nil => simp [Str.join]
    | cons b r =>
      rw [Str.join, L_app, L_app, ih]
      simp [List.intersperse]
      intro h; cases h
theorem L_join0 {s : Str} (h : L s = []) (l : List Str) : L (Txt.join s l) = (l.map L).flatten := by
  rw [L_join, h]
  induction l with
  | nil => rfl
  | cons a r ih =>
    cases r with
    | nil => simp
    | cons b r => simpa [List.intersperse] using ih
theorem cutD_sub {α : Type} (l : List α) (lo hi : Option Int) : ∀ x ∈ cutD l lo hi, x ∈ l := fun x h => List.mem_of_mem_drop (List.mem_of_mem_take h)
end Z
namespace Z
open PySem PySem.Spec L2
section
variable {A : O → Gs → Prop} {AU : Unit → Gs → Prop} {B : Exn → Gs → Prop} {g g' : Gs} {m n : M O} {i : Nat} {o : O} {os : List O} {AO : O → Prop} {x : Int} {ds es : List PyData} {d : PyData}
instance s_tupG {f : List PyData → M Unit} : Stp (Wp (tupG f (.d (.tuple ds)) g) AU B) (Wp (f ds g) AU B) := ⟨fun h => h⟩
instance s_consG {f : List PyData → M Unit} [p : Put g i (some (.d d)) g'] : Stp (Wp (consG i f (d :: ds) g) AU B) (Wp (f ds g') AU B) := ⟨fun h => by
  show Wp (M.bd (setM i (.d d)) (fun _ => f ds) g) AU B
  rw [wp_bd]
  exact z_set p.put h⟩
instance s_nilG : Stp (Wp (nilG [] g) AU B) (AU () g) := ⟨fun h => h⟩
/-- a branch whose test changes nothing, by what the test tells -/
def CndK (v : Bool) (g : Gs) (b : Bool) (g' : Gs) : Prop := b = v ∧ g' = g
theorem CndK.mk {v b : Bool} {g : Gs} (h : b = v) : CndK v g b g := ⟨h, rfl⟩
theorem wp_ifB {α : Type} {c : M Bool} {p q : M α} {A : α → Gs → Prop} (v : Bool) (h : Wp (c g) (CndK v g) fun _ _ => False) (h1 : v = true → Wp (p g) A B) (h2 : v = false → Wp (q g) A B) : Wp (ifM c p q g) A B := by
  refine Stp.go (h.mono (fun b g1 e => ?_) fun _ _ z => z.elim)
  obtain ⟨rfl, rfl⟩ := e
  exact IfK.mk h1 h2
theorem wp_ifP {α : Type} {c : M Bool} {q r : M α} {A : α → Gs → Prop} (p : Prop) [Decidable p] (h : Wp (c g) (CndK (decide p) g) fun _ _ => False) (h1 : p → Wp (q g) A B) (h2 : ¬ p → Wp (r g) A B) : Wp (ifM c q r g) A B :=
  wp_ifB (decide p) h (fun e => h1 (of_decide_eq_true e)) fun e => h2 (of_decide_eq_false e)
/-- what is had is frozen at once -/
def frzM (m : M O) : M O := M.bd m fun o g => match o.fz with
  | some x => .ok (.d x) g
  | none => .bad
def FrK (A : O → Gs → Prop) (o : O) (g : Gs) : Prop := optW o.fz fun x => A (.d x) g
instance s_frz : Stp (Wp (frzM m g) A B) (Wp (m g) (FrK A) B) := ⟨fun h => by
  unfold frzM
  refine (wp_bd (m := m)).mpr (h.mono (fun o g1 q => ?_) fun _ _ z => z)
  unfold FrK at q
  revert q
  cases o.fz with
  | none => exact fun q => q
  | some x => exact fun q => q⟩
instance s_frK [f : FzC o d] : Stp (FrK A o g) (A (.d d) g) := ⟨fun h => by unfold FrK; rw [f.eq]; exact h⟩
end
section
variable {X : Cx} {H H' : Hp} {Ex : List (Addr × HO)} {σ : St} {g : Gs} {T T' ws ws' : Roots} {W : WX} {pu pv : Bool} {e a b : Expr} {m : M O}
theorem ev_frz (h : Ev X W pu e m) : Ev X W pu e (frzM m) := by
  obtain ⟨t, h1, h2⟩ := h.ex
  refine ⟨t, h1, fun σ H Q g T Ex ws a w => h2 σ H Q g T Ex ws a (w.bd.imp (fun o g' k v H' s a' => ?_) fun _ _ k => k)⟩
  cases q : o.fz with
  | none => simp only [q] at k; exact k.elim
  | some x =>
    simp only [q] at k
    exact k v H' s (.ofTop a'.fit (a'.top.fz q))
end
end Z
namespace G
open PySem PySem.Spec L2 Z
local macro_rules | `(tactic| bv_omega) => `(tactic| repeat (first | with_reducible refine Stp.go ?_ | ((with_reducible refine Sd.mk ?_ ?_); focus (first | assumption | omega | exact Nat.zero_le _ | exact mulC_l | exact mulC_r | (simp only [List.length_cons, List.length_nil, List.length_map, List.length_append, Z.len_app]; omega) | (simp only [List.length_map, List.length_append, List.length_cons, List.length_nil, Z.intsF_len] at *; omega) | with_unfolding_all exact rfl | (refine powC_of ?_; omega) | assumption | exact List.mem_cons_self)) | with_reducible refine IfK.dt (by decide) ?_ | with_reducible refine IfK.df (by decide) ?_))
local macro_rules | `(tactic| array_get_dec) => `(tactic| repeat ((fail_if_success (with_reducible refine isJn ?_)); (first | with_reducible refine Stp.go ?_ | ((with_reducible refine Sd.mk ?_ ?_); focus (first | assumption | omega | exact Nat.zero_le _ | exact mulC_l | exact mulC_r | (simp only [List.length_cons, List.length_nil, List.length_map, List.length_append, Z.len_app]; omega) | (simp only [List.length_map, List.length_append, List.length_cons, List.length_nil, Z.intsF_len] at *; omega) | with_unfolding_all exact rfl | (refine powC_of ?_; omega) | assumption | exact List.mem_cons_self)) | with_reducible refine IfK.dt (by decide) ?_ | with_reducible refine IfK.df (by decide) ?_)))
local macro_rules | `(tactic| array_mem_dec) => `(tactic| (repeat' (first | (first | with_reducible refine Stp.go ?_ | ((with_reducible refine Sd.mk ?_ ?_); focus (first | assumption | omega | exact Nat.zero_le _ | exact mulC_l | exact mulC_r | (simp only [List.length_cons, List.length_nil, List.length_map, List.length_append, Z.len_app]; omega) | (simp only [List.length_map, List.length_append, List.length_cons, List.length_nil, Z.intsF_len] at *; omega) | with_unfolding_all exact rfl | (refine powC_of ?_; omega) | assumption | exact List.mem_cons_self)) | with_reducible refine IfK.dt (by decide) ?_ | with_reducible refine IfK.df (by decide) ?_) | refine IfK.dec (fun _ => ?_) (fun _ => ?_) | (refine CndK.mk ?_; first | rfl | (simp [*]; done) | (simp; omega) | (simp at *; done) | (simp at *; simp [*]; done) | (simp at *; omega)))))
local macro_rules | `(tactic| sizeOf_list_dec) => `(tactic| repeat ((fail_if_success (first | with_reducible refine isLc ?_ | with_reducible refine isFor ?_)); (first | with_reducible refine Stp.go ?_ | ((with_reducible refine Sd.mk ?_ ?_); focus (first | assumption | omega | exact Nat.zero_le _ | exact mulC_l | exact mulC_r | (simp only [List.length_cons, List.length_nil, List.length_map, List.length_append, Z.len_app]; omega) | (simp only [List.length_map, List.length_append, List.length_cons, List.length_nil, Z.intsF_len] at *; omega) | with_unfolding_all exact rfl | (refine powC_of ?_; omega) | assumption | exact List.mem_cons_self)) | with_reducible refine IfK.dt (by decide) ?_ | with_reducible refine IfK.df (by decide) ?_)))
def takenS : List Str := ["yes", "no", "not", "and", "or", "done", "then", "if", "while", "either", "often", "asks", "deeds", "keeps", "makes", "rests", "idles", "still", "never"]
theorem taken_eq : f_law_taken [] = .ok (.lst ((takenS.map PyData.str).map O.d)) [] := by rfl
theorem taken_len : ∀ z ∈ takenS, z.length ≤ 7 := by decide
instance s_taken {A : O → List O → Prop} {B : Exn → Prop} : Stp (FW (f_law_taken []) A B) (A (.lst ((takenS.map PyData.str).map O.d)) []) := ⟨fun h => by rw [taken_eq]; exact h⟩
instance s_take {c s : Int} {n : Int} {A : O → List O → Prop} {B : Exn → Prop} : Stp (FW (f_law_take [.lst [.d (.int c), .d (.int s)], .d (.int n)]) A B)
    (Sd (0 < n ∧ n < 18446744073709551616) (∀ (r c s : Int), 0 ≤ r → r < n → A (.d (.int r)) [.lst [.d (.int c), .d (.int s)], .d (.int n)])) := ⟨fun k => fw_take ⟨_, _, rfl⟩ k.1.1 k.1.2 fun r bx' hb a b => by
  obtain ⟨c, s, rfl⟩ := hb
  exact k.2 r c s a b⟩
theorem len_intsF (a : Int) (n : Nat) : (intsF a n).length = n := by simp [intsF]
/-- an item of a row, at a place that is there -/
theorem ix_any {α : Type} {e : α → PyData} {l : List α} {o : O} {x : Int} {A : O → Prop} (hl : asLT o = some (l.map e)) (h0 : 0 ≤ x) (h1 : x < l.length) (k : ∀ z ∈ l, A (.d (e z))) : optW (ixF [o, .d (.int x)]) A :=
  optW_ix hl h0 (by simpa using h1) fun y hy => by
    obtain ⟨z, hz, rfl⟩ := List.mem_map.mp hy
    exact k z hz
def lets : Str := "abcdefghijklmnopqrstuvwxyz"
def Low (z : Str) : Prop := ∀ c ∈ L z, c ∈ L lets
/-- a name -/
structure NmOk (z : Str) : Prop where
  pos : 0 < z.length
  le : z.length ≤ 5
  low : Low z
  free : z ∉ takenS
theorem low_app {s t : Str} (h : Low s) (k : Low t) : Low (s ++ t) := fun c m => by
  rw [L_app] at m
  rcases List.mem_append.mp m with m | m
  · exact h c m
  · exact k c m
theorem low_cut {s : Str} (h : Low s) (lo hi : Option Int) : Low (cutS s lo hi) := fun c m => h c (by rw [L_cut] at m; exact cutD_sub _ _ _ _ m)
theorem low_one {s : Str} (h : Low s) {c : Nat} (m : c ∈ s.cps.toList) : Low ⟨#[c]⟩ := fun d e => by
  rw [L_one, List.mem_singleton] at e
  subst e
  exact h _ m
theorem low_lets : Low lets := fun _ h => h
instance (z : Str) : Decidable (Low z) := inferInstanceAs (Decidable (∀ c ∈ L z, c ∈ L lets))
theorem taken_low : ∀ z ∈ takenS, Low z := by decide +kernel
theorem nm_of {z : Str} (h1 : z.length ≤ 5) (h2 : Low z) (h3 : ¬ z = "") (h4 : z ∉ takenS) : NmOk z := ⟨by
  apply Nat.pos_of_ne_zero
  intro e
  apply h3
  apply L_ext
  rw [List.eq_nil_of_length_eq_zero ((L_len z).trans e)]
  rfl, h1, h2, h4⟩
theorem fw_name {c s : Int} {A : O → List O → Prop} {B : Exn → Prop} (k : ∀ (z : Str) (c s : Int), NmOk z → A (.d (.str z)) [.lst [.d (.int c), .d (.int s)]]) : FW (f_law_name [.lst [.d (.int c), .d (.int s)]]) A B := by
  refine fwRun ?_
  unfold g_law_name
  bv_omega
  intro n c s h0 h1; bv_omega
  refine Sd.mk (by rw [len_intsF]; omega) ?_
  bv_omega
  refine wp_lcB PyData.str (fun z => z.length = 1 ∧ Low z) (fun g => ∃ c s : Int, g = [some (.lst [.d (.int c), .d (.int s)]), some (.d (.str "abcdefghijklmnopqrstuvwxyz")), none, none, none, none, none]) ?_ ?_ ⟨_, _, rfl⟩
  · rintro l g hl hp ⟨c, s, rfl⟩
    rw [len_intsF] at hl
    have z0 : (Str.ofString "").length = 0 := by decide
    have hsum : (l.map (·.length)).sum = l.length := by
      clear hl
      induction l with
      | nil => rfl
      | cons a r ih => simp [(hp a (by simp)).1, ih fun z hz => hp z (by simp [hz])]; omega
    have hj : (Txt.join "" l).length = l.length := PySem.W.KT.join_ones l fun a m => (hp a m).1
    have hlow : Low (Txt.join "" l) := fun c m => by
      rw [L_join0 rfl] at m
      obtain ⟨b, hb, m⟩ := List.mem_flatten.mp m
      obtain ⟨z, hz, rfl⟩ := List.mem_map.mp hb
      exact (hp z hz).2 c m
    bv_omega
    refine Sd.mk (by rw [hsum, z0]; omega) ?_
    generalize Txt.join "" l = z at hj hlow
    have hz1 : 1 ≤ z.length := by omega
    have hz5 : z.length ≤ 5 := by omega
    array_get_dec
    refine wp_jn (fun g => ∃ (c s : Int) (z : Str) (o3 o4 o5 : Option O), z.length ≤ 5 ∧ Low z ∧ g = [some (.lst [.d (.int c), .d (.int s)]), some (.d (.str "abcdefghijklmnopqrstuvwxyz")), some (.d (.str z)), o3, o4, o5, none]) ?_ ?_
    · bv_omega
      intro m c s h2 h3; bv_omega
      refine IfK.dec (fun _ => ?_) (fun _ => ?_)
      · bv_omega
        intro r c s h4 h5; bv_omega
        refine ix_any (e := PyData.str) (l := takenS) (asLT_d (allD_map _)) h4 h5 fun w hw => ?_
        have w7 := taken_len w hw
        have wl := taken_low w hw
        bv_omega
        intro at1 c s h6 h7; bv_omega
        have l1 := len_cut w none (some at1)
        have l2 := len_cut w (some at1) none
        have l3 := len_cut w (some (at1 + 1)) none
        bv_omega
        refine optW_ixS (by omega) (by decide) (by omega) fun q hq => ?_
        have l4 : (⟨#[q]⟩ : Str).length = 1 := rfl
        have lq := low_one hlow hq
        bv_omega
        refine optW_ixS (by omega) (by decide) (by omega) fun q2 hq2 => ?_
        have l5 : (⟨#[q2]⟩ : Str).length = 1 := rfl
        have lq2 := low_one hlow hq2
        bv_omega
        intro r c s h8 h9; bv_omega
        refine ix_any (e := PyData.str) (l := [_, _, _]) rfl h8 h9 fun y hy => ?_
        have hx' : y.length ≤ 30 ∧ Low y := by
          simp only [List.mem_cons, List.not_mem_nil, or_false] at hy
          rcases hy with rfl | rfl | rfl
          · exact ⟨by simp only [len_app]; omega, low_app (low_cut wl _ _) (low_cut wl _ _)⟩
          · exact ⟨by simp only [len_app]; omega, low_app (low_app (low_cut wl _ _) lq) (low_cut wl _ _)⟩
          · exact ⟨by simp only [len_app]; omega, low_app (low_app (low_cut wl _ _) lq2) (low_cut wl _ _)⟩
        obtain ⟨y1, y2⟩ := hx'
        bv_omega
        exact ⟨c, s, _, _, _, _, len_cutHi y 5, low_cut y2 _ _, rfl⟩
      · bv_omega
        exact ⟨c, s, z, _, _, _, hz5, hlow, rfl⟩
    · rintro g ⟨c, s, z, o3, o4, o5, hz, hlow, rfl⟩
      refine wp_jn (fun g => ∃ (c s : Int) (z : Str), z.length ≤ 5 ∧ Low z ∧ g = [some (.lst [.d (.int c), .d (.int s)]), some (.d (.str "abcdefghijklmnopqrstuvwxyz")), some (.d (.str z)), o3, o4, o5, none]) ?_ ?_
      · bv_omega
        intro m c s h2 h3; bv_omega
        refine IfK.dec (fun _ => ?_) (fun _ => ?_)
        · bv_omega
          intro r c s h4 h5; bv_omega
          refine ix_any (e := PyData.str) (l := ["do", "ask"]) rfl h4 h5 fun y hy => ?_
          have hx' : y.length ≤ 5 ∧ Low y := by
            have : ∀ y ∈ ([Str.ofString "do", Str.ofString "ask"] : List Str), y.length ≤ 5 ∧ Low y := by decide +kernel
            exact this y hy
          bv_omega
          exact ⟨c, s, y, hx'.1, hx'.2, rfl⟩
        · bv_omega
          exact ⟨c, s, z, hz, hlow, rfl⟩
      · rintro g ⟨c, s, z, hz, hlow, rfl⟩
        have hq : NmOk "q" := ⟨by decide, by decide, by decide +kernel, by decide +kernel⟩
        refine wp_jn (fun g => ∃ (z : Str), NmOk z ∧ g = [some (.lst [.d (.int c), .d (.int s)]), some (.d (.str "abcdefghijklmnopqrstuvwxyz")), some (.d (.str z)), o3, o4, o5, none]) ?_ ?_
        · bv_omega
          refine IfK.dec (fun _ => ?_) (fun he => ?_)
          · bv_omega
            exact ⟨_, hq, rfl⟩
          · bv_omega
            refine IfK.dec (fun _ => ?_) (fun hi => ?_)
            · bv_omega
              exact ⟨_, hq, rfl⟩
            · bv_omega
              exact ⟨_, nm_of hz hlow he hi, rfl⟩
        · rintro g ⟨z, hz, rfl⟩
          bv_omega
          exact k _ _ _ hz
  · rintro d hd g ⟨c, s, rfl⟩
    bv_omega
    intro m c s h2 h3; bv_omega
    refine optW_ixS (by decide) h2 h3 fun x hx => ?_
    exact ⟨⟨#[x]⟩, rfl, ⟨rfl, low_one low_lets hx⟩, c, s, rfl⟩
instance s_name {c s : Int} {A : O → List O → Prop} {B : Exn → Prop} : Stp (FW (f_law_name [.lst [.d (.int c), .d (.int s)]]) A B) (∀ (z : Str) (c s : Int), NmOk z → A (.d (.str z)) [.lst [.d (.int c), .d (.int s)]]) := ⟨fw_name⟩
theorem fw_box {ns : List Int} {i : Int} (hi : 0 ≤ i) {A : O → List O → Prop} {B : Exn → Prop} (k : ∀ c s : Int, A (.lst [.d (.int c), .d (.int s)]) [.gL (ns.map PyData.int), .d (.int i)]) : FW (f_law_box [.gL (ns.map PyData.int), .d (.int i)]) A B := by
  refine fwRun ?_
  unfold g_law_box
  array_get_dec
  refine wp_jn (fun g => ∃ c : Int, g = [some (.gL (ns.map PyData.int)), some (.d (.int i)), some (.d (.int c)), none]) ?_ ?_
  · bv_omega
    refine IfK.dec (fun h1 => ?_) (fun h1 => ?_)
    · bv_omega
      refine ix_any (e := PyData.int) (l := ns) rfl hi (by simpa using h1) fun z _ => ?_
      bv_omega
      exact ⟨_, rfl⟩
    · bv_omega
      refine IfK.dec (fun h2 => ?_) (fun h2 => ?_)
      · bv_omega
        refine ix_any (e := PyData.int) (l := ns) rfl (Int.emod_nonneg _ (by omega)) (by have := Int.emod_lt_of_pos i h2; simpa using this) fun z _ => ?_
        bv_omega
        exact ⟨_, rfl⟩
      · bv_omega
        exact ⟨_, rfl⟩
  · rintro g ⟨c, rfl⟩
    array_get_dec
    refine wp_jn (fun g => ∃ c s : Int, g = [some (.gL (ns.map PyData.int)), some (.d (.int i)), some (.d (.int c)), some (.d (.int s))]) ?_ ?_
    · bv_omega
      refine IfK.dec (fun h1 => ?_) (fun h1 => ?_)
      · bv_omega
        exact ⟨_, _, rfl⟩
      · bv_omega
        exact ⟨_, _, rfl⟩
    · rintro g ⟨c, s, rfl⟩
      bv_omega
      exact k _ _
instance s_box {ns : List Int} {i : Int} {A : O → List O → Prop} {B : Exn → Prop} : Stp (FW (f_law_box [.gL (ns.map PyData.int), .d (.int i)]) A B) (Sd (0 ≤ i) (∀ c s : Int, A (.lst [.d (.int c), .d (.int s)]) [.gL (ns.map PyData.int), .d (.int i)])) := ⟨fun k => fw_box k.1 k.2⟩
end G
namespace G
open PySem PySem.Spec L2 Z
local macro_rules | `(tactic| bv_omega) => `(tactic| repeat (first | with_reducible refine Stp.go ?_ | ((with_reducible refine Sd.mk ?_ ?_); focus (first | assumption | omega | exact Nat.zero_le _ | exact mulC_l | exact mulC_r | (simp only [List.length_cons, List.length_nil, List.length_map, List.length_append, Z.len_app]; omega) | (simp only [List.length_map, List.length_append, List.length_cons, List.length_nil, Z.intsF_len] at *; omega) | with_unfolding_all exact rfl | (refine powC_of ?_; omega) | assumption | exact List.mem_cons_self)) | with_reducible refine IfK.dt (by decide) ?_ | with_reducible refine IfK.df (by decide) ?_))
local macro_rules | `(tactic| array_get_dec) => `(tactic| repeat ((fail_if_success (with_reducible refine isJn ?_)); (first | with_reducible refine Stp.go ?_ | ((with_reducible refine Sd.mk ?_ ?_); focus (first | assumption | omega | exact Nat.zero_le _ | exact mulC_l | exact mulC_r | (simp only [List.length_cons, List.length_nil, List.length_map, List.length_append, Z.len_app]; omega) | (simp only [List.length_map, List.length_append, List.length_cons, List.length_nil, Z.intsF_len] at *; omega) | with_unfolding_all exact rfl | (refine powC_of ?_; omega) | assumption | exact List.mem_cons_self)) | with_reducible refine IfK.dt (by decide) ?_ | with_reducible refine IfK.df (by decide) ?_)))
local macro_rules | `(tactic| array_mem_dec) => `(tactic| (repeat' (first | (first | with_reducible refine Stp.go ?_ | ((with_reducible refine Sd.mk ?_ ?_); focus (first | assumption | omega | exact Nat.zero_le _ | exact mulC_l | exact mulC_r | (simp only [List.length_cons, List.length_nil, List.length_map, List.length_append, Z.len_app]; omega) | (simp only [List.length_map, List.length_append, List.length_cons, List.length_nil, Z.intsF_len] at *; omega) | with_unfolding_all exact rfl | (refine powC_of ?_; omega) | assumption | exact List.mem_cons_self)) | with_reducible refine IfK.dt (by decide) ?_ | with_reducible refine IfK.df (by decide) ?_) | refine IfK.dec (fun _ => ?_) (fun _ => ?_) | (refine CndK.mk ?_; first | rfl | (simp [*]; done) | (simp; omega) | (simp at *; done) | (simp at *; simp [*]; done) | (simp at *; omega)))))
local macro_rules | `(tactic| sizeOf_list_dec) => `(tactic| repeat ((fail_if_success (first | with_reducible refine isLc ?_ | with_reducible refine isFor ?_)); (first | with_reducible refine Stp.go ?_ | ((with_reducible refine Sd.mk ?_ ?_); focus (first | assumption | omega | exact Nat.zero_le _ | exact mulC_l | exact mulC_r | (simp only [List.length_cons, List.length_nil, List.length_map, List.length_append, Z.len_app]; omega) | (simp only [List.length_map, List.length_append, List.length_cons, List.length_nil, Z.intsF_len] at *; omega) | with_unfolding_all exact rfl | (refine powC_of ?_; omega) | assumption | exact List.mem_cons_self)) | with_reducible refine IfK.dt (by decide) ?_ | with_reducible refine IfK.df (by decide) ?_)))
end G
namespace G
open PySem PySem.Spec L2 Z
def f_law_any_test : Nat → Fn
  | 0 => fun _ => .bad
  | n + 1 => runF 4 4 8 (seqM (asgM (callM G.f_law_take [] (slIn 0 (valA (dM (.int 7)) (M.ret [])))) (setM 4))
  (seqM (ifM (orZ (tstM (opM ltF (consM (pkM 2) (consM (dM (.int 2)) (M.ret []))))) (orZ (tstM (opM eqF (consM (pkM 3) (consM (dM (.int 0)) (M.ret []))))) (tstM (opM ltF (consM (pkM 4) (consM (dM (.int 2)) (M.ret []))))))) (seqM (asgM (lstM (consM (tupM (consM (dM (.str "yes")) (M.ret []))) (consM (tupM (consM (dM (.str "no")) (M.ret []))) (M.ret [])))) (setM 5))
  (seqM (ifM (andZ (tstM (opM gtF (consM (opM lenF (consM (pkM 1) (M.ret []))) (consM (dM (.int 0)) (M.ret []))))) (tstM (opM gtF (consM (callM G.f_law_take [] (slIn 0 (valA (dM (.int 4)) (M.ret [])))) (consM (dM (.int 0)) (M.ret [])))))) (retM (tupM (consM (dM (.str "ask")) (consM (opM ixF (consM (fzM 1) (consM (callM G.f_law_take [] (slIn 0 (valA (opM lenF (consM (pkM 1) (M.ret []))) (M.ret [])))) (M.ret [])))) (M.ret []))))) (M.ret .next))
  (retM (opM ixF (consM (fzM 5) (consM (callM G.f_law_take [] (slIn 0 (valA (dM (.int 2)) (M.ret [])))) (M.ret []))))))) (M.ret .next))
  (seqM (ifM (orZ (tstM (opM eqF (consM (pkM 4) (consM (dM (.int 2)) (M.ret []))))) (tstM (opM ltF (consM (pkM 2) (consM (dM (.int 3)) (M.ret [])))))) (retM (tupM (consM (dM (.str "not")) (consM (callM (f_law_any_test n) [] (slIn 0 (slIn 1 (valA (opM subF (consM (pkM 2) (consM (dM (.int 1)) (M.ret [])))) (valA (opM subF (consM (pkM 3) (consM (dM (.int 1)) (M.ret [])))) (M.ret [])))))) (M.ret []))))) (M.ret .next))
  (seqM (asgM (opM addF (consM (dM (.int 1)) (consM (callM G.f_law_take [] (slIn 0 (valA (opM subF (consM (pkM 2) (consM (dM (.int 2)) (M.ret [])))) (M.ret [])))) (M.ret [])))) (setM 6))
  (seqM (asgM (callM (f_law_any_test n) [] (slIn 0 (slIn 1 (slIn 6 (valA (opM subF (consM (pkM 3) (consM (dM (.int 1)) (M.ret [])))) (M.ret [])))))) (setM 7))
  (retM (tupM (consM (opM ixF (consM (lstM (consM (dM (.str "and")) (consM (dM (.str "or")) (M.ret [])))) (consM (opM modF (consM (pkM 4) (consM (dM (.int 2)) (M.ret [])))) (M.ret [])))) (consM (fzM 7) (consM (callM (f_law_any_test n) [] (slIn 0 (slIn 1 (valA (opM subF (consM (opM subF (consM (pkM 2) (consM (dM (.int 1)) (M.ret [])))) (consM (pkM 6) (M.ret [])))) (valA (opM subF (consM (pkM 3) (consM (dM (.int 1)) (M.ret [])))) (M.ret [])))))) (M.ret [])))))))))))
def g_law_leaf : M Fl := (seqM (ifM (andZ (tstM (opM gtF (consM (opM ixF (consM (pkM 2) (consM (dM (.int 1)) (M.ret [])))) (consM (dM (.int 0)) (M.ret []))))) (andZ (tstM (opM gtF (consM (opM lenF (consM (pkM 1) (M.ret []))) (consM (dM (.int 0)) (M.ret []))))) (tstM (opM gtF (consM (callM G.f_law_take [] (slIn 0 (valA (dM (.int 5)) (M.ret [])))) (consM (dM (.int 0)) (M.ret []))))))) (seqM (asgM (opM subF (consM (opM ixF (consM (pkM 2) (consM (dM (.int 1)) (M.ret [])))) (consM (dM (.int 1)) (M.ret [])))) (ixSetM 2 (dM (.int 1))))
  (retM (tupM (consM (dM (.str "do")) (consM (opM ixF (consM (fzM 1) (consM (callM G.f_law_take [] (slIn 0 (valA (opM lenF (consM (pkM 1) (M.ret []))) (M.ret [])))) (M.ret [])))) (M.ret [])))))) (M.ret .next))
  (retM (tupM (consM (dM (.str "done")) (M.ret [])))))
def f_law_leaf : Fn := runF 3 3 3 g_law_leaf
end G
namespace Z
open PySem PySem.Spec L2
section
variable {AF : Fl → Gs → Prop} {AL : List O → Gs → Prop} {B : Exn → Gs → Prop} {m : M O} {a : M Fl} {c : M Bool} {set : O → M Unit} {vs : List Nat}
theorem isLc {ds : List PyData} {acc : List O} {g : Gs} (h : Wp (lcM vs set c m ds acc g) AL B) : Wp (lcM vs set c m ds acc g) AL B := h
theorem isFor {ds : List PyData} {g : Gs} (h : Wp (forM set a ds g) AF B) : Wp (forM set a ds g) AF B := h
theorem intsF_succ (lo : Int) (n : Nat) : intsF lo (n + 1) = .int lo :: intsF (lo + 1) n := by
  unfold intsF
  rw [List.range_succ_eq_map, List.map_cons, List.map_map]
  simp only [List.cons.injEq]
  refine ⟨by simp, List.map_congr_left fun i _ => ?_⟩
  simp only [Function.comp]
  congr 1
  omega
theorem intsF_len (a : Int) (n : Nat) : (intsF a n).length = n := by simp [intsF]
theorem wp_forN (I : Int → Gs → Prop) : ∀ {n : Nat} {lo : Int} {g : Gs} (he : ∀ g, I (lo + n) g → AF .next g)
    (hs : ∀ i g, lo ≤ i → i < lo + n → I i g → Wp (set (.d (.int i)) g) (fun _ g1 => Wp (a g1) (ForI (ι := Nat) (fun _ g => I (i + 1) g) [] AF) B) B) (h : I lo g), Wp (forM set a (intsF lo n) g) AF B
  | 0, lo, g, he, hs, h => he g (by simpa using h)
  | n + 1, lo, g, he, hs, h => by
    rw [intsF_succ]
    refine Stp.go ((hs lo g (by omega) (by omega) h).mono (fun _ g1 q => q.mono (fun fl g2 z => ?_) fun _ _ z => z) fun _ _ z => z)
    have ih := @wp_forN I n (lo + 1)
    have e : lo + 1 + (n : Int) = lo + ((n + 1 : Nat) : Int) := by omega
    cases fl with
    | next => exact ih (fun g k => he g (by rw [← e]; exact k)) (fun i g h1 h2 => hs i g (by omega) (by omega)) z
    | cnt => exact ih (fun g k => he g (by rw [← e]; exact k)) (fun i g h1 h2 => hs i g (by omega) (by omega)) z
    | brk => exact z
    | ret o => exact z
end
end Z
local macro_rules | `(tactic| bv_omega) => `(tactic| repeat (first | with_reducible refine Z.Stp.go ?_ | ((with_reducible refine Z.Sd.mk ?_ ?_); focus (first | assumption | omega | exact Nat.zero_le _ | exact Z.mulC_l | exact Z.mulC_r | (simp only [List.length_cons, List.length_nil, List.length_map, List.length_append, Z.len_app]; omega) | (simp only [List.length_map, List.length_append, List.length_cons, List.length_nil, Z.intsF_len] at *; omega) | with_unfolding_all exact rfl | (refine Z.powC_of ?_; omega) | assumption | exact List.mem_cons_self)) | with_reducible refine Z.IfK.dt (by decide) ?_ | with_reducible refine Z.IfK.df (by decide) ?_))
local macro_rules | `(tactic| array_get_dec) => `(tactic| repeat ((fail_if_success (with_reducible refine Z.isJn ?_)); (first | with_reducible refine Z.Stp.go ?_ | ((with_reducible refine Z.Sd.mk ?_ ?_); focus (first | assumption | omega | exact Nat.zero_le _ | exact Z.mulC_l | exact Z.mulC_r | (simp only [List.length_cons, List.length_nil, List.length_map, List.length_append, Z.len_app]; omega) | (simp only [List.length_map, List.length_append, List.length_cons, List.length_nil, Z.intsF_len] at *; omega) | with_unfolding_all exact rfl | (refine Z.powC_of ?_; omega) | assumption | exact List.mem_cons_self)) | with_reducible refine Z.IfK.dt (by decide) ?_ | with_reducible refine Z.IfK.df (by decide) ?_)))
local macro_rules | `(tactic| array_mem_dec) => `(tactic| (repeat' (first | (first | with_reducible refine Z.Stp.go ?_ | ((with_reducible refine Z.Sd.mk ?_ ?_); focus (first | assumption | omega | exact Nat.zero_le _ | exact Z.mulC_l | exact Z.mulC_r | (simp only [List.length_cons, List.length_nil, List.length_map, List.length_append, Z.len_app]; omega) | (simp only [List.length_map, List.length_append, List.length_cons, List.length_nil, Z.intsF_len] at *; omega) | with_unfolding_all exact rfl | (refine Z.powC_of ?_; omega) | assumption | exact List.mem_cons_self)) | with_reducible refine Z.IfK.dt (by decide) ?_ | with_reducible refine Z.IfK.df (by decide) ?_) | refine Z.IfK.dec (fun _ => ?_) (fun _ => ?_) | (refine Z.CndK.mk ?_; first | rfl | (simp [*]; done) | (simp; omega) | (simp at *; done) | (simp at *; simp [*]; done) | (simp at *; omega)))))
local macro_rules | `(tactic| sizeOf_list_dec) => `(tactic| repeat ((fail_if_success (first | with_reducible refine Z.isLc ?_ | with_reducible refine Z.isFor ?_)); (first | with_reducible refine Z.Stp.go ?_ | ((with_reducible refine Z.Sd.mk ?_ ?_); focus (first | assumption | omega | exact Nat.zero_le _ | exact Z.mulC_l | exact Z.mulC_r | (simp only [List.length_cons, List.length_nil, List.length_map, List.length_append, Z.len_app]; omega) | (simp only [List.length_map, List.length_append, List.length_cons, List.length_nil, Z.intsF_len] at *; omega) | with_unfolding_all exact rfl | (refine Z.powC_of ?_; omega) | assumption | exact List.mem_cons_self)) | with_reducible refine Z.IfK.dt (by decide) ?_ | with_reducible refine Z.IfK.df (by decide) ?_)))
namespace G
open PySem PySem.Spec L2 Z
/-- a test over these questions -/
def Tst.over (qs : List Str) : Tst → Prop
  | .ask q => q ∈ qs
  | .not t => t.over qs
  | .and a b => a.over qs ∧ b.over qs
  | .or a b => a.over qs ∧ b.over qs
  | _ => True
def Err.over (qs ps : List Str) : Err → Prop
  | .done => True
  | .doo p => p ∈ ps
  | .often e => e.over qs ps
  | .whl t e => t.over qs ∧ e.over qs ps
  | .thn a b => a.over qs ps ∧ b.over qs ps
  | .iff t a b => t.over qs ∧ a.over qs ps ∧ b.over qs ps
  | .eth a b => a.over qs ps ∧ b.over qs ps
/-- of all tests in it -/
def Err.tst (P : Tst → Prop) : Err → Prop
  | .often e => e.tst P
  | .whl t e => P t ∧ e.tst P
  | .thn a b => a.tst P ∧ b.tst P
  | .iff t a b => P t ∧ a.tst P ∧ b.tst P
  | .eth a b => a.tst P ∧ b.tst P
  | _ => True
theorem Err.size_pos (e : Err) : 0 < e.size := by cases e <;> simp [Err.size] <;> omega
theorem fw_anyT {qs : List Str} : ∀ {n : Nat} {room deep : Int} {c s : Int} {A : O → List O → Prop} {B : Exn → Prop}, deep < n → 0 ≤ deep → room ≤ 1000 → qs.length ≤ 1000 →
    (∀ (t : Tst) (c s : Int), (t.size : Int) ≤ max 1 room → (t.deep : Int) ≤ deep + 1 → t.over qs → A (.d t.d) [.lst [.d (.int c), .d (.int s)], .d (.list (qs.map PyData.str)), .d (.int room), .d (.int deep)]) →
    FW (f_law_any_test n [.lst [.d (.int c), .d (.int s)], .d (.list (qs.map PyData.str)), .d (.int room), .d (.int deep)]) A B
  | 0, room, deep, c, s, A, B, h, h0, _, _, _ => by omega
  | n + 1, room, deep, c, s, A, B, h, h0, hr, hq, k => by
    refine fwRun ?_
    bv_omega
    intro f c s f0 f1; array_get_dec
    have yes : ∀ c s : Int, A (.d (.tuple [.str "yes"])) [.lst [.d (.int c), .d (.int s)], .d (.list (qs.map PyData.str)), .d (.int room), .d (.int deep)] := fun c s => k .yes c s (by simp [Tst.size]; omega) (by simp [Tst.deep]; omega) trivial
    have no : ∀ c s : Int, A (.d (.tuple [.str "no"])) [.lst [.d (.int c), .d (.int s)], .d (.list (qs.map PyData.str)), .d (.int room), .d (.int deep)] := fun c s => k .no c s (by simp [Tst.size]; omega) (by simp [Tst.deep]; omega) trivial
    refine Stp.go (wp_ifP (room < 2 ∨ deep = 0 ∨ f < 2) ?_ (fun _ => ?_) (fun hc => ?_))
    · array_mem_dec
    · array_get_dec
      refine wp_jn (fun g => ∃ c s : Int, g = [some (.lst [.d (.int c), .d (.int s)]), some (.d (.list (qs.map PyData.str))), some (.d (.int room)), some (.d (.int deep)), some (.d (.int f)), some (.lst [.d (.tuple [.str "yes"]), .d (.tuple [.str "no"])]), none, none]) ?_ ?_
      · bv_omega
        refine IfK.dec (fun hl => ?_) (fun _ => ?_)
        · bv_omega
          intro x c s h2 h3; bv_omega
          refine IfK.dec (fun _ => ?_) (fun _ => ?_)
          · bv_omega
            intro x c s h2 h3; bv_omega
            refine ix_any (e := PyData.str) (l := qs) rfl h2 (by simpa using h3) fun q hqs => ?_
            bv_omega
            exact k (.ask q) c s (by simp [Tst.size]; omega) (by simp [Tst.deep]; omega) hqs
          · bv_omega
            exact ⟨_, _, rfl⟩
        · bv_omega
          exact ⟨_, _, rfl⟩
      · rintro g ⟨c, s, rfl⟩
        bv_omega
        intro x c s h2 h3; bv_omega
        refine optW_ix rfl h2 h3 fun y hy => ?_
        simp only [List.mem_cons, List.not_mem_nil, or_false] at hy
        rcases hy with rfl | rfl
        · bv_omega
          exact yes c s
        · bv_omega
          exact no c s
    · array_get_dec
      have ih := @fw_anyT qs n
      refine Stp.go (wp_ifP (f = 2 ∨ room < 3) ?_ (fun _ => ?_) (fun hc2 => ?_))
      · array_mem_dec
      · bv_omega
        refine ih (by omega) (by omega) (by omega) hq fun t c s b1 b2 b3 => ?_
        bv_omega
        exact k (.not t) c s (by simp [Tst.size]; omega) (by simp [Tst.deep]; omega) b3
      · bv_omega
        intro x c s h2 h3; bv_omega
        refine ih (by omega) (by omega) (by omega) hq fun t c s b1 b2 b3 => ?_
        bv_omega
        refine optW_ix rfl (Int.emod_nonneg _ (by omega)) (by have := Int.emod_lt_of_pos f (b := 2) (by omega); simpa using this) fun y hy => ?_
        bv_omega
        refine ih (by omega) (by omega) (by omega) hq fun u c s b4 b5 b6 => ?_
        simp only [List.mem_cons, List.not_mem_nil, or_false] at hy
        rcases hy with rfl | rfl
        · bv_omega
          exact k (.and t u) c s (by simp [Tst.size]; omega) (by simp [Tst.deep]; omega) ⟨b3, b6⟩
        · bv_omega
          exact k (.or t u) c s (by simp [Tst.size]; omega) (by simp [Tst.deep]; omega) ⟨b3, b6⟩
theorem fw_leaf {ps : List Str} {c s l0 l1 : Int} (hp : ps.length ≤ 1000) {A : O → List O → Prop} {B : Exn → Prop}
    (k : ∀ (t : Err) (c s l1 : Int), t.size = 1 → t.deep = 1 → (∀ qs, t.over qs ps) → (∀ P, t.tst P) → A (.d t.d) [.lst [.d (.int c), .d (.int s)], .d (.list (ps.map PyData.str)), .lst [.d (.int l0), .d (.int l1)]]) :
    FW (f_law_leaf [.lst [.d (.int c), .d (.int s)], .d (.list (ps.map PyData.str)), .lst [.d (.int l0), .d (.int l1)]]) A B := by
  refine fwRun ?_
  unfold g_law_leaf
  bv_omega
  refine IfK.dec (fun _ => ?_) (fun _ => ?_)
  · bv_omega
    refine IfK.dec (fun h1 => ?_) (fun _ => ?_)
    · bv_omega
      intro x c s h2 h3; bv_omega
      refine IfK.dec (fun _ => ?_) (fun _ => ?_)
      · bv_omega
        intro x c s h2 h3; bv_omega
        refine ix_any (e := PyData.str) (l := ps) rfl h2 (by simpa using h3) fun q hqs => ?_
        bv_omega
        exact k (.doo q) _ _ _ rfl rfl (fun _ => hqs) fun _ => trivial
      · bv_omega
        exact k .done _ _ _ rfl rfl (fun _ => trivial) fun _ => trivial
    · bv_omega
      exact k .done _ _ _ rfl rfl (fun _ => trivial) fun _ => trivial
  · bv_omega
    exact k .done _ _ _ rfl rfl (fun _ => trivial) fun _ => trivial
end G
namespace Z
open PySem PySem.Spec PySem.W PyProof.Rows L2 PyProof.V
end Z
namespace Z
open PySem PySem.Spec L2
def kk (is : List Int) : List Key := is.map Sum.inl
theorem dpKInts {K : PySem.W.Frag} {Hf : Hp} : ∀ {vs : List V} {is : List Int}, DpAll K Hf vs (is.map PyData.int) → vs = (kk is).map kV
  | [], [], _ => rfl
  | v :: vs, i :: is, h => by
    rw [List.map_cons] at h
    cases h with
    | cons h t =>
      cases h
      rw [dpKInts t]
      rfl
  | [], i :: is, h => by rw [List.map_cons] at h; cases h
  | v :: vs, [], h => by rw [List.map_nil] at h; cases h
theorem idxInts : ∀ is : List Int, idxS (is.map PyData.int) = false
  | [] => rfl
  | i :: r => by simp [idxS]
theorem intsOf_eq : ∀ {ds : List PyData} {is : List Int}, intsOf ds = some is → ds = is.map PyData.int
  | [], is, h => by simp only [intsOf, Option.some.injEq] at h; subst h; rfl
  | .int i :: r, is, h => by
    simp only [intsOf] at h
    cases q : intsOf r with
    | none => rw [q] at h; cases h
    | some y => rw [q] at h; cases h; rw [List.map_cons, ← intsOf_eq q]
  | .none :: _, _, h => by simp [intsOf] at h
  | .bool _ :: _, _, h => by simp [intsOf] at h
  | .str _ :: _, _, h => by simp [intsOf] at h
  | .list _ :: _, _, h => by simp [intsOf] at h
  | .tuple _ :: _, _, h => by simp [intsOf] at h
  | .dict _ :: _, _, h => by simp [intsOf] at h
/-- an int tuple of data is a key -/
theorem dpKey {K : PySem.W.Frag} {Hf : Hp} {v : V} {is : List Int} (h : Dp K Hf v (.tuple (is.map PyData.int))) : ∃ b, v = .ref b ∧ Hf b = some (.tup ((kk is).map kV)) := by
  generalize hd : is.map PyData.int = ds at h
  have hi := idxInts is
  cases h with
  | tup h1 _ h2 =>
    subst hd
    rw [dpKInts h2] at h1
    exact ⟨_, rfl, h1⟩
  | ftup _ _ j _ =>
    subst hd
    rw [hi] at j
    cases j
  | ktup _ _ _ j _ =>
    subst hd
    rw [hi] at j
    cases j
theorem dpGet' {K : PySem.W.Frag} {Hf : Hp} : ∀ {vs : List V} {ds : List PyData}, DpAll K Hf vs ds → ∀ (i : Nat) (v : V) (d : PyData), vs[i]? = some v → ds[i]? = some d → Dp K Hf v d
  | _, _, .nil, i, v, d, e, _ => by simp at e
  | _, _, .cons h t, 0, v, d, e1, e2 => by simp at e1 e2; subst e1; subst e2; exact h
  | _, _, .cons h t, i + 1, v, d, e1, e2 => dpGet' t i v d (by simpa using e1) (by simpa using e2)
end Z
namespace Z
open PySem PySem.Spec L2
section
variable {X : Cx} {W : WX} {pu pv : Bool} {H H' : Hp} {Ex : List (Addr × HO)} {σ : L2.St} {g : Gs} {T T' ws ws' : Roots} {e a b : Expr} {es : List Expr} {m : M O} {ms : M (List O)} {pos : Pos} {k np : Nat}
def gdOf : List (List Key × O) → Option (List (List Key × PyData))
  | [] => some []
  | (k, .d x) :: r => match gdOf r with | some t => some ((k, x) :: t) | none => none
  | _ :: _ => none
theorem gdOf_map : ∀ {kos : List (List Key × O)} {kds : List (List Key × PyData)}, gdOf kos = some kds → kos = kds.map fun p => (p.1, O.d p.2)
  | [], kds, h => by simp only [gdOf, Option.some.injEq] at h; subst h; rfl
  | (k, o) :: r, kds, h => by
    cases o with
    | d x =>
      simp only [gdOf] at h
      cases q : gdOf r with
      | none => rw [q] at h; cases h
      | some t => rw [q] at h; cases h; rw [List.map_cons, ← gdOf_map q]
    | _ => simp [gdOf] at h
theorem Rel.lockD {K : PySem.W.Frag} {mg : Str → Option Value} {rs : Roots} {v : V} {kds : List (List Key × PyData)} (r : Rel K mg H Ex ((v, .dT (kds.map fun p => (p.1, O.d p.2))) :: rs) ws) :
    ∃ ad kvs, v = .ref ad ∧ H ad = some (.dT kvs) ∧ kvs.map (·.1) = kds.map (·.1) ∧ ∀ od, Rel K mg (upd H ad (.frz od (.dT kvs))) Ex ((v, .gD kds) :: (v, .pin (.frz od (.dT kvs))) :: rs) [] := by
  obtain ⟨Hf, as, s, he, ho, nd, hn, hw⟩ := r.ex
  cases ho with
  | cons h t =>
    rename_i a1 a2
    cases h with
    | dT q kq tq =>
      rename_i ad kvs cs
      have hk : kvs.map (·.1) = kds.map (·.1) := by rw [kq.1]; simp [List.map_map, Function.comp_def]
      refine ⟨ad, kvs, rfl, q, hk, fun od => ?_⟩
      have adn := hn ad (by simp)
      have nd2 : ad ∉ Ex.map (·.1) ∧ ad ∉ a2 := by
        have hp : (Ex.map (·.1) ++ (ad :: cs ++ a2)).Perm (ad :: (Ex.map (·.1) ++ (cs ++ a2))) := by
          rw [List.cons_append]
          exact List.perm_middle
        have := (List.nodup_cons.mp (hp.nodup_iff.mp nd)).1
        exact ⟨fun m => this (List.mem_append_left _ m), fun m => this (List.mem_append_right _ (List.mem_append_right _ m))⟩
      have sub : (Ex.map (·.1) ++ a2).Sublist (Ex.map (·.1) ++ (ad :: cs ++ a2)) := (List.sublist_append_right _ _).append_left _
      have hne : ∀ a ∈ Ex.map (·.1) ++ a2, a ≠ ad := fun a m z => by
        subst z
        rcases List.mem_append.mp m with m | m
        · exact nd2.1 m
        · exact nd2.2 m
      have s1 : Hf.le ⟨upd Hf.h ad (.frz od (.dT kvs)), Hf.m⟩ := ⟨fun b o e => by
        show upd Hf.h ad (.frz od (.dT kvs)) b = some o
        rw [upd_ne (fun z => by rw [z, adn.1.1] at e; cases e)]; exact e, fun _ _ h => h⟩
      have s2 : Fz.on K ⟨upd Hf.h ad (.frz od (.dT kvs)), Hf.m⟩ (upd H ad (.frz od (.dT kvs))) := ⟨fun b o e => by
        have e : upd Hf.h ad (.frz od (.dT kvs)) b = some o := e
        by_cases z : b = ad
        · subst z; rw [upd_same] at e ⊢; exact e
        · rw [upd_ne z] at e ⊢; exact s b o e, fun a g e => by
        have e : Hf.m a = some g := e
        obtain ⟨h1, kvs', h2, h3⟩ := s.mem a g e
        have z : a ≠ ad := fun z => by rw [z, adn.1.2] at e; cases e
        refine ⟨?_, kvs', ?_, memMono s1.h h3⟩
        · show upd Hf.h ad (.frz od (.dT kvs)) a = none
          rw [upd_ne z]; exact h1
        · rw [upd_ne z]; exact h2⟩
      have hv : DpAll K Hf.h (kvs.map (·.2)) (kds.map (·.2)) := by
        have e : (kds.map fun p => (p.1, O.d p.2)).map (·.2) = (kds.map (·.2)).map O.d := by simp [List.map_map, Function.comp_def]
        rw [e] at tq
        exact owAllD0 tq (allD_map _)
      refine ⟨⟨upd Hf.h ad (.frz od (.dT kvs)), Hf.m⟩, a2, s2, fun p m => ?_, .cons (as := []) (.gD upd_same hk (dpAllMono s1.h hv)) (.cons (as := []) (.pin upd_same) (owLMono s1 t fun a m => upd_ne (hne a (List.mem_append_right _ m)))), nd.sublist sub, fun a m => ⟨?_, fun xs e => ?_⟩, fun _ h => nomatch h⟩
      · rw [upd_ne (hne _ (List.mem_append_left _ (List.mem_map.mpr ⟨p, m, rfl⟩)))]
        exact he p m
      · refine ⟨?_, (hn a (sub.subset m)).1.2⟩
        show upd Hf.h ad (.frz od (.dT kvs)) a = none
        rw [upd_ne (hne a m)]
        exact (hn a (sub.subset m)).1.1
      · rw [upd_ne (hne a m)] at e
        exact (hn a (sub.subset m)).2 xs e
theorem Rel.dupG {K : PySem.W.Frag} {mg : Str → Option Value} {rs : Roots} {v : V} {kds : List (List Key × PyData)} (r : Rel K mg H Ex ((v, .gD kds) :: rs) ws) : Rel K mg H Ex ((v, .gD kds) :: (v, .gD kds) :: rs) ws := by
  obtain ⟨Hf, as, s, he, ho, nd, hn, hw⟩ := r.ex
  cases ho with
  | cons h t =>
    cases h with
    | gD h1 h2 h3 => exact ⟨Hf, _, s, he, .cons (.gD h1 h2 h3) (.cons (.gD h1 h2 h3) t), nd, hn, hw⟩
def tLk (t : TE) : TE := fun σ H Q => t σ H fun v H1 => (∃ d u, v = .ref d ∧ H1 d = some u ∧ Mut (some u) ∧ ∀ od, Q v (upd H1 d (.frz od u))) ∨ Q v H1
theorem pe_lk {t : TE} (h : PE X e t) : PE X e (tLk t) := ⟨fun pins s σ H Q I hw => thn (h.run pins s σ H _ I hw) fun v s1 ⟨x, H1, I1, r, q⟩ => by
  rcases q with ⟨d, u, rfl, hd, mu, q⟩ | q
  · obtain ⟨od, I2⟩ := I1.lock hd mu
    exact ⟨.ref d, _, I2, r, q od⟩
  · exact ⟨x, H1, I1, r, q⟩⟩
end
end Z
namespace Z
open PySem PySem.Spec L2
end Z
namespace Z
open PySem PySem.Spec L2
end Z
namespace G
open PySem PySem.Spec L2 Z
end G
namespace G
open PySem PySem.Spec L2 Z
inductive Fact where
  | keeps (p q : Str)
  | makes (p q : Str) (v : Bool)
  | rests (p r : Str)
  | idles (q : Str) (v : Bool) (p : Str)
  | still (p : Str)
  | never (t : Tst)
def Fact.d : Fact → PyData
  | .keeps p q => .tuple [.str "keeps", .str p, .str q]
  | .makes p q v => .tuple [.str "makes", .str p, .str q, .bool v]
  | .rests p r => .tuple [.str "rests", .str p, .str r]
  | .idles q v p => .tuple [.str "idles", .str q, .bool v, .str p]
  | .still p => .tuple [.str "still", .str p]
  | .never t => .tuple [.str "never", t.d]
structure Book where
  asks : List Str
  deeds : List Str
  facts : List Fact
def Book.d (b : Book) : PyData := .tuple [.tuple (b.asks.map PyData.str), .tuple (b.deeds.map PyData.str), .tuple (b.facts.map Fact.d)]
def Fact.over (asks deeds : List Str) : Fact → Prop
  | .keeps p q => p ∈ deeds ∧ q ∈ asks
  | .makes p q _ => p ∈ deeds ∧ q ∈ asks
  | .rests p r => p ∈ deeds ∧ r ∈ deeds
  | .idles q _ p => q ∈ asks ∧ p ∈ deeds
  | .still p => p ∈ deeds
  | .never t => t.over asks ∧ t.size ≤ 7 ∧ t.deep ≤ 7
/-- a book as the laws draw them -/
structure Book.Ok (b : Book) : Prop where
  asksN : b.asks.Nodup
  deedsN : b.deeds.Nodup
  asksM : ∀ q ∈ b.asks, NmOk q
  deedsM : ∀ q ∈ b.deeds, NmOk q
  asksL : b.asks.length ≤ 3
  deedsP : 1 ≤ b.deeds.length
  deedsL : b.deeds.length ≤ 3
  factsL : b.facts.length ≤ 6
  factsO : ∀ f ∈ b.facts, f.over b.asks b.deeds
/-- whether question k is answered yes -/
def bitI (n : Int) (k : Nat) : Bool := decide (n / 2 ^ k % 2 = 1)
def Tst.so (asks : List Str) (n : Int) : Tst → Bool
  | .yes => true
  | .no => false
  | .ask q => bitI n (asks.idxOf q)
  | .not t => !t.so asks n
  | .and a b => a.so asks n && b.so asks n
  | .or a b => a.so asks n || b.so asks n
end G
namespace G
open PySem PySem.Spec L2 Z
end G
namespace G
open PySem PySem.Spec L2 Z
/-- a text that ends in a small letter -/
def Ends (z : Str) (P : List Nat) (j : Nat) : Prop := L z = P ++ [97 + j] ∧ j < 26
end G
namespace G
open PySem PySem.Spec L2 Z
def Fact.base (b : Book) (n : Int) : Fact → Option Nat
  | .still p => some (b.deeds.idxOf p)
  | .idles q v p => if bitI n (b.asks.idxOf q) = v then some (b.deeds.idxOf p) else none
  | _ => none
end G
namespace G
open PySem PySem.Spec L2 Z
end G
namespace G
open PySem PySem.Spec L2 Z
end G
namespace G
open PySem PySem.Spec L2 Z
end G
namespace G
open PySem PySem.Spec L2 Z
end G
namespace Z
open PySem PySem.Spec L2
def pairH (c : Bool) (o : Obj) (vs : List V) : HO := if c = true then .frz o (.tup vs) else .tup vs
theorem Rel.pairH {K : PySem.W.Frag} {mg : Str → Option Value} {H : Hp} {Ex : List (Addr × HO)} {ws : Roots} {rs : Roots} {vs : List V} {ds : List PyData} (r : Rel K mg H Ex (vs.zip (ds.map O.d) ++ rs) ws) (hl : vs.length = ds.length) {p : Addr} {o : Obj} (ho : o.dict = none) (hp : H p = none) :
    Rel K mg (upd H p (pairH (idxS ds) o vs)) Ex ((.ref p, .d (.tuple ds)) :: rs) ws := by
  have hl2 : vs.length = (ds.map O.d).length := by simpa using hl
  have dat : ∀ {Hf : Fz} {as : List Addr}, OwL K mg Hf H ((vs.zip (ds.map O.d) ++ rs).map (·.1)) ((vs.zip (ds.map O.d) ++ rs).map (·.2)) as → DpAll K Hf.h vs ds := fun h => by
    obtain ⟨z1, z2⟩ := zipMap hl2
    rw [List.map_append, List.map_append, z1, z2] at h
    obtain ⟨a1, a2, _, h1, _⟩ := owLSplit hl2 h
    exact owAllD0 h1 (allD_map ds)
  unfold Z.pairH
  cases qi : idxS ds with
  | false =>
    have r2 := r.newD (p := p) (vs := vs) hp qi fun Hf as h => dat h
    exact (r2.perm (List.perm_middle (l₁ := vs.zip (ds.map O.d))).symm).dropL
  | true =>
    have r1 := r.new (.frz o (.tup vs)) hp
    have r2 := r1.shutF (ds := ds) ho qi fun Hf as h => by
      obtain ⟨z1, z2⟩ := zipMap hl2
      rw [List.map_append, List.map_append, z1, z2] at h
      obtain ⟨a1, a2, _, h1, _⟩ := owLSplit hl2 h
      exact owAllD0 h1 (allD_map ds)
    exact (r2.perm (List.perm_middle (l₁ := vs.zip (ds.map O.d))).symm).dropL
end Z
namespace G
open PySem PySem.Spec L2 Z
end G
namespace Z
open PySem PySem.Spec L2
inductive Sp1 where
  | fld (f : Str)
  | idx (j : Nat)
  | kT (k : List Key)
  | kK (k : Key)
abbrev Pth := List Sp1
def setV {α β : Type} : List (α × β) → Nat → β → List (α × β)
  | [], _, _ => []
  | p :: r, 0, o => (p.1, o) :: r
  | p :: r, j + 1, o => p :: setV r j o
theorem setV_keys {α β : Type} : ∀ {l : List (α × β)} {j : Nat} {o : β}, (setV l j o).map (·.1) = l.map (·.1)
  | [], _, _ => rfl
  | _ :: _, 0, _ => rfl
  | p :: r, j + 1, o => by simp only [setV, List.map_cons, setV_keys (l := r)]
theorem setV_vals {α β : Type} : ∀ {l : List (α × β)} {j : Nat} {o : β}, (setV l j o).map (·.2) = (l.map (·.2)).set j o
  | [], _, _ => rfl
  | _ :: _, 0, _ => rfl
  | p :: r, j + 1, o => by simp only [setV, List.map_cons, List.set_cons_succ, setV_vals (l := r)]
def chs : O → List O
  | .lst os => os
  | .tup os => os
  | .dK kvs => kvs.map (·.2)
  | .dT kvs => kvs.map (·.2)
  | .ins _ fs => fs.map (·.2)
  | _ => []
def chV : HO → List V
  | .lst os => os
  | .tup os => os
  | .dK kvs => kvs.map (·.2)
  | .dT kvs => kvs.map (·.2)
  | .ins _ _ fs => fs.map (·.2)
  | _ => []
def setC : O → Nat → O → O
  | .lst os, j, o => .lst (os.set j o)
  | .tup os, j, o => .tup (os.set j o)
  | .dK kvs, j, o => .dK (setV kvs j o)
  | .dT kvs, j, o => .dT (setV kvs j o)
  | .ins c fs, j, o => .ins c (setV fs j o)
  | x, _, _ => x
def fix1 {α : Type} [DecidableEq α] (ks : List α) (k : α) : Option Nat := ks.findIdx? fun x => decide (x = k)
def cix : O → Sp1 → Option Nat
  | .lst _, .idx j => some j
  | .tup _, .idx j => some j
  | .dK kvs, .kK k => fix1 (kvs.map (·.1)) k
  | .dT kvs, .kT k => fix1 (kvs.map (·.1)) k
  | .ins _ fs, .fld f => fix1 (fs.map (·.1)) f
  | _, _ => none
def cixV : HO → Sp1 → Option Nat
  | .lst _, .idx j => some j
  | .tup _, .idx j => some j
  | .dK kvs, .kK k => fix1 (kvs.map (·.1)) k
  | .dT kvs, .kT k => fix1 (kvs.map (·.1)) k
  | .ins _ _ fs, .fld f => fix1 (fs.map (·.1)) f
  | _, _ => none
def sub1 (o : O) (s : Sp1) : Option O := match cix o s with
  | some j => (chs o)[j]?
  | none => none
def put1 (o : O) (s : Sp1) (x : O) : O := match cix o s with
  | some j => setC o j x
  | none => o
def getP : O → Pth → Option O
  | o, [] => some o
  | o, s :: π => match sub1 o s with
    | some x => getP x π
    | none => none
def setP : O → Pth → O → O
  | _, [], x => x
  | o, s :: π, x => match sub1 o s with
    | some y => put1 o s (setP y π x)
    | none => o
/-- where a place leads, by the heap -/
inductive Wlk (H : Hp) : V → Pth → V → Prop
  | nil {v : V} : Wlk H v [] v
  | cons {a : Addr} {ho : HO} {s : Sp1} {j : Nat} {u w : V} {π : Pth} : H a = some ho → cixV ho s = some j → (chV ho)[j]? = some u → Wlk H u π w → Wlk H (.ref a) (s :: π) w
theorem Wlk.det {H : Hp} {v w w' : V} {π : Pth} (h : Wlk H v π w) (h' : Wlk H v π w') : w = w' := by
  induction h with
  | nil => cases h'; rfl
  | cons g1 g2 g3 _ ih =>
    cases h' with
    | cons k1 k2 k3 k4 =>
      rw [g1] at k1; cases k1
      rw [g2] at k2; cases k2
      rw [g3] at k3; cases k3
      exact ih k4
section
variable {K : PySem.W.Frag} {mg : Str → Option Value} {H H' : Hp} {Ex : List (Addr × HO)} {rs ws : Roots}
theorem Opn.ch {o : O} {ho : HO} {vs : List V} {os : List O} (p : Opn mg o ho vs os) (hN : ∀ ks xs, o ≠ .dN ks xs) : chs o = os ∧ chV ho = vs ∧ (∀ s, cixV ho s = cix o s) ∧ ∀ j x, Opn mg (setC o j x) ho vs (os.set j x) := by
  cases p with
  | lst => exact ⟨rfl, rfl, fun s => by cases s <;> rfl, fun _ _ => .lst⟩
  | tup => exact ⟨rfl, rfl, fun s => by cases s <;> rfl, fun _ _ => .tup⟩
  | dK h => exact ⟨rfl, rfl, fun s => by cases s <;> first | rfl | simp only [cixV, cix, h.1], fun j x => by
      show Opn mg (.dK (setV _ j x)) _ _ _
      rw [← setV_vals]
      exact .dK (by rw [setV_keys]; exact h)⟩
  | dT h => exact ⟨rfl, rfl, fun s => by cases s <;> first | rfl | simp only [cixV, cix, h.1], fun j x => by
      show Opn mg (.dT (setV _ j x)) _ _ _
      rw [← setV_vals]
      exact .dT (by rw [setV_keys]; exact h)⟩
  | ins c h => exact ⟨rfl, rfl, fun s => by cases s <;> first | rfl | simp only [cixV, cix, h], fun j x => by
      show Opn mg (.ins _ (setV _ j x)) _ _ _
      rw [← setV_vals]
      exact .ins c (h.trans (setV_keys (j := j) (o := x)).symm)⟩
  | dN _ _ => exact absurd rfl (hN _ _)
theorem permAt {α : Type} {l : List α} {j : Nat} (h : j < l.length) : l.Perm (l[j] :: l.eraseIdx j) := (permErase h).symm
theorem permSetP {α : Type} : ∀ {l : List α} {j : Nat} (h : j < l.length) (x : α), (l.set j x).Perm (x :: l.eraseIdx j)
  | _ :: _, 0, _, _ => .refl _
  | a :: l, j + 1, h, x => by
    simp only [List.set_cons_succ, List.eraseIdx_cons_succ]
    exact ((permSetP (l := l) (j := j) (by simpa using h) x).cons a).trans (.swap _ _ _)
theorem zipSetP : ∀ {vs : List V} {os : List O} {j : Nat} {v : V} {x : O}, vs[j]? = some v → vs.zip (os.set j x) = (vs.zip os).set j (v, x)
  | [], _, _, _, _, _ => by simp
  | _ :: _, [], j, _, _, _ => by simp
  | w :: vs, q :: os, 0, v, x, h => by
    simp only [List.getElem?_cons_zero, Option.some.injEq] at h
    subst h
    rfl
  | w :: vs, q :: os, j + 1, v, x, h => by
    simp only [List.getElem?_cons_succ] at h
    simp only [List.set_cons_succ, List.zip_cons_cons, zipSetP h]
theorem Rel.opn1 {v : V} {o x : O} {s : Sp1} (r : Rel K mg H Ex ((v, o) :: rs) ws) (h : sub1 o s = some x) : ∃ (a : Addr) (ho : HO) (j : Nat) (u : V) (r1 : Roots), v = .ref a ∧ H a = some ho ∧ cixV ho s = some j ∧ (chV ho)[j]? = some u ∧
    Rel K mg H ((a, ho) :: Ex) ((u, x) :: (r1 ++ rs)) ws ∧ ∀ (H' : Hp) (x' : O) (rs2 ws2 : Roots), Rel K mg H' ((a, ho) :: Ex) ((u, x') :: (r1 ++ rs2)) ws2 → Rel K mg H' Ex ((v, put1 o s x') :: rs2) ws2 ∧ H' a = some ho := by
  have hg : o.isG = false := by
    unfold sub1 at h
    split at h
    · rename_i j hj
      cases o <;> first | rfl | (cases s <;> simp [cix] at hj)
    · cases h
  obtain ⟨a, ho, vs, os, e1, e2, p, hl, r2⟩ := r.opn hg
  have hN : ∀ ks xs, o ≠ .dN ks xs := fun ks xs e => by
    subst e
    unfold sub1 at h
    split at h
    · rename_i j hj
      cases s <;> simp [cix] at hj
    · cases h
  obtain ⟨c1, c2, c3, c4⟩ := p.ch hN
  unfold sub1 at h
  split at h
  · rename_i j hj
    rw [c1] at h
    obtain ⟨hlt, hx⟩ := List.getElem?_eq_some_iff.mp h
    have hlv : j < vs.length := by omega
    have hz : j < (vs.zip os).length := by rw [List.length_zip]; omega
    have e3 : (vs.zip os)[j] = (vs[j], x) := by simp [hx]
    refine ⟨a, ho, j, vs[j], (vs.zip os).eraseIdx j, e1, e2, (c3 s).trans hj, by rw [c2]; simp, ?_, fun H' x' rs2 ws2 r3 => ?_⟩
    · have p1 := permAt hz
      rw [e3] at p1
      exact r2.perm (p1.append_right _)
    · have ez : vs.zip (os.set j x') = (vs.zip os).set j (vs[j], x') := zipSetP (by simp)
      have p2 := permSetP hz (vs[j], x')
      rw [← ez] at p2
      have r4 := r3.perm ((p2.append_right rs2).symm)
      have hH : H' a = some ho := by
        obtain ⟨Hf, as, s, he, _⟩ := r4.ex
        exact he _ List.mem_cons_self
      subst e1
      refine ⟨?_, hH⟩
      unfold put1
      rw [hj]
      exact r4.shut (c4 j x') (by simp [hl])
  · cases h
theorem Rel.opnP : ∀ {π : Pth} {Ex : List (Addr × HO)} {rs : Roots} {v : V} {o x : O}, Rel K mg H Ex ((v, o) :: rs) ws → getP o π = some x → ∃ (w : V) (Ex' : List (Addr × HO)) (r1 : Roots), Wlk H v π w ∧
    Rel K mg H (Ex' ++ Ex) ((w, x) :: (r1 ++ rs)) ws ∧ ∀ (H' : Hp) (x' : O) (rs2 ws2 : Roots), Rel K mg H' (Ex' ++ Ex) ((w, x') :: (r1 ++ rs2)) ws2 → Rel K mg H' Ex ((v, setP o π x') :: rs2) ws2 ∧ Wlk H' v π w
  | [], Ex, rs, v, o, x, r, h => by
    simp only [getP, Option.some.injEq] at h
    subst h
    exact ⟨v, [], [], .nil, r, fun H' x' rs2 ws2 r2 => ⟨r2, .nil⟩⟩
  | s :: π, Ex, rs, v, o, x, r, h => by
    simp only [getP] at h
    split at h
    · rename_i y hy
      obtain ⟨a, ho, j, u, r1, e1, e2, e3, e4, r2, cl⟩ := r.opn1 hy
      obtain ⟨w, Ex', r1', w1, r3, cl2⟩ := Rel.opnP r2 h
      subst e1
      refine ⟨w, Ex' ++ [(a, ho)], r1' ++ r1, .cons e2 e3 e4 w1, ?_, fun H' x' rs2 ws2 r4 => ?_⟩
      · rw [List.append_assoc, List.append_assoc]
        exact r3
      · rw [List.append_assoc, List.append_assoc] at r4
        obtain ⟨r5, w5⟩ := cl2 H' x' _ _ r4
        obtain ⟨r6, h6⟩ := cl H' _ _ _ r5
        simp only [setP, hy]
        exact ⟨r6, .cons h6 e3 e4 w5⟩
    · cases h
end
def getPl (g : Gs) (i : Nat) (π : Pth) : Option O := match g[i]? with
  | some (some o) => getP o π
  | _ => none
def setPl (g : Gs) (i : Nat) (π : Pth) (x : O) : Gs := match g[i]? with
  | some (some o) => g.set i (some (setP o π x))
  | _ => g
section
variable {X : Cx} {W : WX} {pu pv pw : Bool} {H H' : Hp} {Ex : List (Addr × HO)} {σ σ' : L2.St} {g : Gs} {T T' ws ws' rs : Roots}
theorem At.opnP {i : Nat} {π : Pth} {x : O} {v : V} (a : At X H Ex σ g T ws) (h : getPl g i π = some x) (hv : σ[i]? = some (some v)) : ∃ (w : V) (Ex' : List (Addr × HO)) (r1 : Roots), Wlk H v π w ∧
    Rel X.K X.mg H (Ex' ++ Ex) ((w, x) :: (r1 ++ (roots σ (g.set i none) ++ T))) ws ∧ ∀ (H' : Hp) (x' : O) (T2 ws2 : Roots), Rel X.K X.mg H' (Ex' ++ Ex) ((w, x') :: (r1 ++ (roots σ (g.set i none) ++ T2))) ws2 → At X H' Ex σ (setPl g i π x') T2 ws2 ∧ Wlk H' v π w := by
  unfold getPl at h
  split at h
  · rename_i o ho
    obtain ⟨w, Ex', r1, w1, r2, cl⟩ := (a.get ho hv).opnP h
    refine ⟨w, Ex', r1, w1, r2, fun H' x' T2 ws2 r3 => ?_⟩
    obtain ⟨r4, w4⟩ := cl H' x' _ _ r3
    refine ⟨?_, w4⟩
    unfold setPl
    rw [ho]
    exact .put a.fit hv r4
  · cases h
end
end Z
namespace Z
open PySem PySem.Spec L2
theorem fix1_some {α : Type} [DecidableEq α] : ∀ {ks : List α} {k : α} {j : Nat}, fix1 ks k = some j → ks[j]? = some k ∧ ∀ i, i < j → ks[i]? ≠ some k
  | [], _, _, h => by simp [fix1] at h
  | x :: r, k, j, h => by
    unfold fix1 at h
    rw [List.findIdx?_cons] at h
    by_cases e : x = k
    · simp only [e, decide_true, if_true, Option.some.injEq] at h
      subst h
      exact ⟨by simp [e], fun i hi => by omega⟩
    · simp only [e, decide_false] at h
      cases q : List.findIdx? (fun x => decide (x = k)) r with
      | none => rw [q] at h; simp at h
      | some j' =>
        rw [q] at h
        simp at h
        subst h
        obtain ⟨h1, h2⟩ := fix1_some (ks := r) (k := k) (j := j') q
        refine ⟨by simpa using h1, fun i hi => ?_⟩
        cases i with
        | zero => simpa using e
        | succ i => simpa using h2 i (by omega)
theorem fix1_none {α : Type} [DecidableEq α] {ks : List α} {k : α} (h : fix1 ks k = none) : k ∉ ks := by
  unfold fix1 at h
  rw [List.findIdx?_eq_none_iff] at h
  intro m
  have := h k m
  simp at this
theorem find_fix {α β : Type} [DecidableEq α] : ∀ {l : List (α × β)} {k : α}, ((l.find? fun kv => decide (kv.1 = k)).map (·.2)) = match fix1 (l.map (·.1)) k with
    | some j => (l.map (·.2))[j]?
    | none => none
  | [], k => by simp [fix1]
  | p :: r, k => by
    have ih := find_fix (l := r) (k := k)
    unfold fix1 at ih ⊢
    rw [List.map_cons, List.findIdx?_cons, List.find?_cons]
    by_cases e : p.1 = k
    · simp [e]
    · simp only [e, decide_false]
      rw [ih]
      cases List.findIdx? (fun x => decide (x = k)) (r.map (·.1)) <;> simp
theorem valV_fix {α : Type} [DecidableEq α] {l : List (α × V)} {k : α} : valV l k = match fix1 (l.map (·.1)) k with
    | some j => (l.map (·.2))[j]?
    | none => none := find_fix
theorem look_fix {β : Type} : ∀ {l : List (Str × β)} {k : Str}, l.lookup k = match fix1 (l.map (·.1)) k with
    | some j => (l.map (·.2))[j]?
    | none => none
  | [], k => by simp [fix1]
  | p :: r, k => by
    have ih := look_fix (l := r) (k := k)
    unfold fix1 at ih ⊢
    rw [List.map_cons, List.findIdx?_cons]
    by_cases e : p.1 = k
    · subst e
      simp [List.lookup]
    · have e2 : (k == p.1) = false := by simpa using fun z : k = p.1 => e z.symm
      simp only [List.lookup, e2, e, decide_false]
      rw [ih]
      cases List.findIdx? (fun x => decide (x = k)) (r.map (·.1)) <;> simp
/-- a key of a dict written -/
def putD {α β : Type} [DecidableEq α] (l : List (α × β)) (k : α) (o : β) : List (α × β) := match fix1 (l.map (·.1)) k with
  | some j => setV l j o
  | none => l ++ [(k, o)]
theorem setV_map {α β : Type} [DecidableEq α] : ∀ {l : List (α × β)} {k : α} {j : Nat} {o : β}, (l.map (·.1)).Nodup → fix1 (l.map (·.1)) k = some j → l.map (fun kv => if kv.1 = k then (kv.1, o) else kv) = setV l j o
  | [], k, j, o, _, h => by simp [fix1] at h
  | p :: r, k, j, o, nd, h => by
    rw [List.map_cons] at nd h
    obtain ⟨n1, n2⟩ := List.nodup_cons.mp nd
    unfold fix1 at h
    rw [List.findIdx?_cons] at h
    by_cases e : p.1 = k
    · simp only [e, decide_true, if_true, Option.some.injEq] at h
      subst h
      simp only [List.map_cons, e, if_true, setV, List.cons.injEq, true_and]
      have hh : ∀ q ∈ r, (if q.1 = k then (q.1, o) else q) = q := fun q hq => if_neg fun (z : q.1 = k) => n1 (by rw [e, ← z]; exact List.mem_map.mpr ⟨q, hq, rfl⟩)
      exact (List.map_congr_left hh).trans (by simp)
    · simp only [e, decide_false] at h
      cases q : List.findIdx? (fun x => decide (x = k)) (r.map (·.1)) with
      | none => rw [q] at h; simp at h
      | some j' =>
        rw [q] at h
        simp at h
        subst h
        simp only [List.map_cons, e, if_false, setV, List.cons.injEq, true_and]
        exact setV_map n2 q
theorem putK_fix {α : Type} [DecidableEq α] {l : List (α × V)} {k : α} {v : V} (nd : (l.map (·.1)).Nodup) : putK l k v = putD l k v := by
  unfold putK putD
  cases q : fix1 (l.map (·.1)) k with
  | none =>
    have := fix1_none q
    rw [if_neg fun z => by
      obtain ⟨p, hp, e⟩ := List.any_eq_true.mp z
      exact this (List.mem_map.mpr ⟨p, hp, by simpa using e⟩)]
  | some j =>
    have hm : k ∈ l.map (·.1) := List.mem_of_getElem? (fix1_some q).1
    obtain ⟨p, hp, e⟩ := List.mem_map.mp hm
    rw [if_pos (List.any_eq_true.mpr ⟨p, hp, by simpa using e⟩)]
    exact setV_map nd q
theorem putD_keys {α β γ : Type} [DecidableEq α] {l : List (α × β)} {m : List (α × γ)} {k : α} {x : β} {y : γ} (h : Keq (l.map (·.1)) (m.map (·.1))) : Keq ((putD l k x).map (·.1)) ((putD m k y).map (·.1)) := by
  unfold putD
  rw [h.1]
  cases q : fix1 (m.map (·.1)) k with
  | none =>
    refine ⟨by simp [h.1], ?_⟩
    rw [List.map_append]
    refine List.nodup_append.mpr ⟨h.2, by simp, fun a ha b hb z => ?_⟩
    simp only [List.map_cons, List.map_nil, List.mem_singleton] at hb
    subst hb; subst z
    exact fix1_none q ha
  | some j => exact ⟨by rw [setV_keys, setV_keys, h.1], by rw [setV_keys]; exact h.2⟩
structure CF (K : PySem.W.Frag) (mg : Str → Option Value) (c f : Str) : Prop where
  ex : ∃ C, mg c = some (.ref C) ∧ Cls K C ∧ NoAttr K C f
def plN (i : Nat) : M Pth := fun g => match g[i]? with
  | some (some _) => .ok [] g
  | _ => .bad
section
variable {X : Cx} {W : WX} {pu pv pw : Bool} {H H' : Hp} {Ex : List (Addr × HO)} {σ σ' : L2.St} {g : Gs} {T T' ws ws' rs : Roots} {e a b o lo hi : Expr} {es : List Expr} {m : M O} {mp : M Pth} {ms : M (List O)} {pos p p2 apos : Pos} {k j np : Nat} {x : Str}
structure EvO (X : Cx) (W : WX) (i : Nat) (e : Expr) (m : M Pth) : Prop where
  ex : ∃ t, PE X e t ∧ ∀ (σ : L2.St) (H : Hp) (Q : VK) (g : Gs) (T : Roots) (Ex : List (Addr × HO)) (ws : Roots), At X H Ex σ g T ws →
    Wp (m g) (fun π g' => ∀ (H' : Hp) (v0 w : V) (x : O), g' = g → Same H H' → σ[i]? = some (some v0) → Wlk H' v0 π w → At X H' Ex σ g T ws → getPl g i π = some x → Q w H')
      (fun x g' => ∀ H' cls d, At X H' Ex σ g' T [] → ExAt X.mg Ex cls d H' x → W cls d σ H') → t σ H Q
theorem eo_nm (i : Nat) (hN : X.N[i]? = some x := by rfl) (hv : Vis X.env.scope x := by first | exact Or.inl rfl | exact Or.inr (Or.inl rfl) | exact Or.inr (Or.inr rfl)) (hd : (x == ("__debug__" : Str)) = false := by decide)
    (hcd : (x == ("__classdict__" : Str)) = false := by decide) : EvO X W i (.Name x pos) (plN i) := by
  refine ⟨_, pv i hN hv hd hcd, fun σ H Q g T Ex ws a w => ?_⟩
  unfold plN at w
  split at w
  · rename_i o hg
    obtain ⟨v, hv'⟩ := a.fit.at_ _ _ hg
    exact ⟨v, hv', w H v v o rfl (Same.refl _) hv' .nil a (by simp [getPl, hg, getP])⟩
  · exact w.elim
/-- the object at a place -/
theorem At.atPl {i : Nat} {π : Pth} {x : O} {v w : V} (a : At X H Ex σ g T ws) (h : getPl g i π = some x) (hv : σ[i]? = some (some v)) (hw : Wlk H v π w) : ∃ (Ex' : List (Addr × HO)) (r1 : Roots),
    Rel X.K X.mg H (Ex' ++ Ex) ((w, x) :: (r1 ++ (roots σ (g.set i none) ++ T))) ws ∧ ∀ (H' : Hp) (x' : O) (T2 ws2 : Roots), Rel X.K X.mg H' (Ex' ++ Ex) ((w, x') :: (r1 ++ (roots σ (g.set i none) ++ T2))) ws2 → At X H' Ex σ (setPl g i π x') T2 ws2 ∧ Wlk H' v π w := by
  obtain ⟨w', Ex', r1, hw', r2, cl⟩ := a.opnP h hv
  cases hw.det hw'
  exact ⟨Ex', r1, r2, cl⟩
theorem At.ho {i : Nat} {π : Pth} {x : O} {v w : V} (a : At X H Ex σ g T ws) (h : getPl g i π = some x) (hv : σ[i]? = some (some v)) (hw : Wlk H v π w) (hg : x.isG = false) : ∃ (ad : Addr) (ho : HO) (vs : List V) (os : List O), w = .ref ad ∧ H ad = some ho ∧ Opn X.mg x ho vs os ∧ vs.length = os.length := by
  obtain ⟨Ex', r1, r2, cl⟩ := a.atPl h hv hw
  obtain ⟨ad, ho, vs, os, e1, e2, p, hl, _⟩ := r2.opn hg
  exact ⟨ad, ho, vs, os, e1, e2, p, hl⟩
end
end Z
namespace Z
open PySem PySem.Spec L2
def unfr : O → O
  | .fr o => o
  | o => o
def mkFr : O → O
  | .d x => .d x
  | .fr o => .fr o
  | o => .fr o
section
variable {K : PySem.W.Frag} {mg : Str → Option Value} {H H' : Hp} {Ex : List (Addr × HO)} {rs ws : Roots} {Hf : Fz}
theorem owUp {v : V} {o : O} {as : List Addr} (s : Hf.on K H) (h : Ow K mg Hf Hf.h v o as) : Ow K mg Hf H v o as := owMono (Fz.le.refl _) h fun a m => by
  obtain ⟨u, q⟩ := owThere h a m
  exact (s.same _ _ q).trans q.symm
theorem owUn {v : V} {o : O} {as : List Addr} (s : Hf.on K H) (h : Ow K mg Hf H v o as) : ∃ bs, Ow K mg Hf H v (unfr o) bs := by
  cases h with
  | fr n h => exact ⟨_, owUp s h⟩
  | d h => exact ⟨_, .d h⟩
  | gL h t => exact ⟨_, .gL h t⟩
  | gT h t => exact ⟨_, .gT h t⟩
  | gD h k t => exact ⟨_, .gD h k t⟩
  | gK h k t => exact ⟨_, .gK h k t⟩
  | gN h k t u => exact ⟨_, .gN h k t u⟩
  | pin h => exact ⟨_, .pin h⟩
  | mem h => exact ⟨_, .mem h⟩
  | hole => exact ⟨_, .hole⟩
  | jk => exact ⟨_, .jk⟩
  | exc h c t => exact ⟨_, .exc h c t⟩
  | lst h t => exact ⟨_, .lst h t⟩
  | tup h t => exact ⟨_, .tup h t⟩
  | dK h k t => exact ⟨_, .dK h k t⟩
  | dT h k t => exact ⟨_, .dT h k t⟩
  | ins h c k t => exact ⟨_, .ins h c k t⟩
  | dN h k l t => exact ⟨_, .dN h k l t⟩
theorem owFr {v : V} {o : O} {as : List Addr} (h : Ow K mg Hf Hf.h v o as) : Ow K mg Hf H v (mkFr o) [] := by
  cases h with
  | d h => exact .d h
  | fr n h => exact .fr n h
  | gL h t => exact .fr rfl (.gL h t)
  | gT h t => exact .fr rfl (.gT h t)
  | gD h k t => exact .fr rfl (.gD h k t)
  | gK h k t => exact .fr rfl (.gK h k t)
  | gN h k t u => exact .fr rfl (.gN h k t u)
  | pin h => exact .fr rfl (.pin h)
  | mem h => exact .fr rfl (.mem h)
  | hole => exact .fr rfl .hole
  | jk => exact .fr rfl .jk
  | exc h c t => exact .fr rfl (.exc h c t)
  | lst h t => exact .fr rfl (.lst h t)
  | tup h t => exact .fr rfl (.tup h t)
  | dK h k t => exact .fr rfl (.dK h k t)
  | dT h k t => exact .fr rfl (.dT h k t)
  | ins h c k t => exact .fr rfl (.ins h c k t)
  | dN h k l t => exact .fr rfl (.dN h k l t)
theorem Rel.unfr {v : V} {o : O} (r : Rel K mg H Ex rs ((v, o) :: ws)) : Rel K mg H Ex rs ((v, unfr o) :: ws) := by
  obtain ⟨Hf, as, s, he, ho, nd, hn, hw⟩ := r.ex
  refine ⟨Hf, as, s, he, ho, nd, hn, fun p m => ?_⟩
  rcases List.mem_cons.mp m with e | m
  · subst e
    obtain ⟨bs, h⟩ := hw _ List.mem_cons_self
    exact owUn s h
  · exact hw p (List.mem_cons_of_mem _ m)
theorem owG {v : V} {o : O} {as : List Addr} (h : Ow K mg Hf H v o as) (g : o.isG = true) : as = [] := by
  cases h <;> first | rfl | cases g
/-- what is ground may be had -/
theorem Rel.ofViewG {v : V} {o : O} (r : Rel K mg H Ex rs ((v, o) :: ws)) (g : o.isG = true) : Rel K mg H Ex ((v, o) :: rs) ((v, o) :: ws) := by
  obtain ⟨Hf, as, s, he, ho, nd, hn, hw⟩ := r.ex
  obtain ⟨bs, h⟩ := hw _ List.mem_cons_self
  cases owG h g
  exact ⟨Hf, _, s, he, .cons (as := []) h ho, nd, hn, hw⟩
theorem owLGetO : ∀ {vs : List V} {os : List O} {as : List Addr}, OwL K mg Hf H vs os as → ∀ {j : Nat} {v : V} {o : O}, vs[j]? = some v → os[j]? = some o → ∃ bs, Ow K mg Hf H v o bs
  | _, _, _, .nil, j, v, o, h, _ => by simp at h
  | _, _, _, .cons h t, 0, v, o, h1, h2 => by
    simp only [List.getElem?_cons_zero, Option.some.injEq] at h1 h2
    subst h1; subst h2
    exact ⟨_, h⟩
  | _, _, _, .cons h t, j + 1, v, o, h1, h2 => owLGetO t (j := j) (by simpa using h1) (by simpa using h2)
end
section
variable {X : Cx} {W : WX} {pu pv pw : Bool} {H H' : Hp} {Ex : List (Addr × HO)} {σ σ' : L2.St} {g : Gs} {T T' ws ws' rs : Roots} {e a b o lo hi : Expr} {es : List Expr} {m : M O} {mp : M Pth} {ms : M (List O)} {pos p p2 apos : Pos} {k j np : Nat} {x : Str}
def unM (m : M O) : M O := M.bd m fun o g => .ok (unfr o) g
theorem ep_un (h : EvP X W pu e m) : EvP X W pu e (unM m) := by
  obtain ⟨t, h1, h2⟩ := h.ex
  exact ⟨t, h1, fun σ H Q g T Ex ws a w => h2 σ H Q g T Ex ws a (w.bd.imp (fun o g' k v H' s a' => k v H' s ⟨a'.fit, a'.rel.unfr⟩) fun _ _ k => k)⟩
/-- what is ground, seen, is had -/
def cpM (m : M O) : M O := M.bd m fun o g => if o.isG = true then .ok o g else .bad
theorem ev_cp (h : EvP X W pu e m) : Ev X W pu e (cpM m) := by
  obtain ⟨t, h1, h2⟩ := h.ex
  refine ⟨t, h1, fun σ H Q g T Ex ws a w => h2 σ H Q g T Ex ws a (w.bd.imp (fun o g' k v H' s a' => ?_) fun _ _ k => k)⟩
  split at k
  · rename_i hg
    refine k v H' s (.ofTop a'.fit ?_)
    exact (a'.rel.ofViewG hg).views fun p m => List.mem_cons_of_mem _ m
  · exact k.elim
def fldO (c f : Str) : O → Option O
  | .ins c' fs => if c' = c then match fix1 (fs.map (·.1)) f with
      | some j => (fs.map (·.2))[j]?
      | none => none
    else none
  | .fr (.ins c' fs) => if c' = c then match fix1 (fs.map (·.1)) f with
      | some j => match (fs.map (·.2))[j]? with
        | some x => some (mkFr x)
        | none => none
      | none => none
    else none
  | _ => none
def atM (c f : Str) (m : M O) : M O := M.bd m fun o g => match fldO c f o with
  | some x => .ok x g
  | none => .bad
theorem fldSee {K : PySem.W.Frag} {mg : Str → Option Value} {v : V} {o x : O} {c f : Str} {C : Addr} (r : Rel K mg H Ex rs ((v, o) :: ws)) (hC : mg c = some (.ref C)) (h : fldO c f o = some x) :
    ∃ ad dx fvs u, v = .ref ad ∧ H ad = some (.ins C dx fvs) ∧ fvs.lookup f = some u ∧ Rel K mg H Ex rs ((u, x) :: ws) := by
  obtain ⟨Hf, as, s, he, ho, nd, hn, hw⟩ := r.ex
  obtain ⟨bs, hb⟩ := hw _ List.mem_cons_self
  have fin : ∀ {u : V}, (∃ cs, Ow K mg Hf H u x cs) → Rel K mg H Ex rs ((u, x) :: ws) := fun {u} hu => ⟨Hf, as, s, he, ho, nd, hn, fun p m => by
    rcases List.mem_cons.mp m with e | m
    · subst e; exact hu
    · exact hw p (List.mem_cons_of_mem _ m)⟩
  unfold fldO at h
  split at h
  · rename_i c' fs
    split at h
    · rename_i hc
      subst hc
      split at h
      · rename_i j hj
        cases hb with
        | ins q hm hk t =>
          rename_i C' dx fvs cs
          rw [hC] at hm; cases hm
          have hj2 : fix1 (fvs.map (·.1)) f = some j := by rw [hk]; exact hj
          have hlt : j < (fvs.map (·.2)).length := by
            have := (List.getElem?_eq_some_iff.mp (fix1_some hj2).1).1
            simpa using this
          have hu : (fvs.map (·.2))[j]? = some (fvs.map (·.2))[j] := List.getElem?_eq_getElem hlt
          exact ⟨_, dx, fvs, _, rfl, q, by rw [look_fix, hj2]; exact hu, fin (owLGetO t hu h)⟩
      · cases h
    · cases h
  · rename_i c' fs
    split at h
    · rename_i hc
      subst hc
      split at h
      · rename_i j hj
        split at h
        · rename_i y hy
          cases h
          cases hb with
          | fr n hb =>
            cases hb with
            | ins q hm hk t =>
              rename_i C' dx fvs cs
              rw [hC] at hm; cases hm
              have hj2 : fix1 (fvs.map (·.1)) f = some j := by rw [hk]; exact hj
              have hlt : j < (fvs.map (·.2)).length := by
                have := (List.getElem?_eq_some_iff.mp (fix1_some hj2).1).1
                simpa using this
              have hu : (fvs.map (·.2))[j]? = some (fvs.map (·.2))[j] := List.getElem?_eq_getElem hlt
              obtain ⟨ds, hd⟩ := owLGetO t hu hy
              exact ⟨_, dx, fvs, _, rfl, s.same _ _ q, by rw [look_fix, hj2]; exact hu, fin ⟨[], owFr hd⟩⟩
        · cases h
      · cases h
    · cases h
  · cases h
theorem ep_at {c f : Str} (h : EvP X W pu o m) (cf : CF X.K X.mg c f) (hb : attributeBase o f X.env (eval o X.env) = eval o X.env := by rfl) : EvP X W pu (.Attribute o f pos) (atM c f m) := by
  obtain ⟨t, h1, h2⟩ := h.ex
  obtain ⟨C, hC, hcl, hna⟩ := cf.ex
  refine ⟨_, pe_fld h1 hb, fun σ H Q g T Ex ws a w => h2 σ H _ g T Ex ws a (w.bd.imp (fun o g' k v H' s a' => ?_) fun _ _ k => k)⟩
  split at k
  · rename_i x hx
    obtain ⟨ad, dx, fvs, u, e1, e2, e3, r2⟩ := fldSee a'.rel hC hx
    exact ⟨ad, C, dx, fvs, u, e1, e2, hcl, hna, e3, k u H' s ⟨a'.fit, r2⟩⟩
  · exact k.elim
def fsM (i : Nat) (c f : Str) (m : M O) : M Fl := M.bd m fun o g => match g[i]? with
  | some (some (.ins c' fs)) => if c' = c ∧ (fs.map (·.1)).Nodup ∧ fs.length < 1000 then .ok .next (g.set i (some (.ins c' (putD fs f o)))) else .bad
  | _ => .bad
theorem putF_eq {f : Str} {y : V} : ∀ {fs : List (Str × V)}, putF f y fs = putD fs f y
  | [] => rfl
  | (k, v) :: r => by
    have ih := putF_eq (f := f) (y := y) (fs := r)
    unfold putD fix1
    rw [List.map_cons, List.findIdx?_cons]
    by_cases e : k = f
    · subst e
      simp [putF, setV]
    · have e2 : (f == k) = false := by simpa using fun z : f = k => e z.symm
      have e3 : (k == f) = false := by simpa using e
      unfold putD fix1 at ih
      simp only [e, decide_false]
      have : putF f y ((k, v) :: r) = (k, v) :: putF f y r := by
        simp [putF, e, e2, e3]
      rw [this, ih]
      cases List.findIdx? (fun x => decide (x = f)) (r.map (·.1)) <;> simp [setV]
theorem Rel.putAt {α : Type} [DecidableEq α] {K : PySem.W.Frag} {mg : Str → Option Value} {kvs : List (α × V)} {kos : List (α × O)} {key : α} {y : V} {x : O} (hk : kvs.map (·.1) = kos.map (·.1))
    (r : Rel K mg H Ex ((kvs.map (·.2)).zip (kos.map (·.2)) ++ ((y, x) :: rs)) ws) : Rel K mg H Ex (((putD kvs key y).map (·.2)).zip ((putD kos key x).map (·.2)) ++ rs) ws := by
  have hl : kvs.length = kos.length := by have := congrArg List.length hk; simpa using this
  unfold putD
  rw [hk]
  cases q : fix1 (kos.map (·.1)) key with
  | none =>
    simp only
    rw [List.map_append, List.map_append, List.zip_append (by simpa using hl)]
    simpa using r
  | some j =>
    simp only
    rw [setV_vals, setV_vals]
    have hj : j < kos.length := by
      have := (List.getElem?_eq_some_iff.mp (fix1_some q).1).1
      simpa using this
    have hz : j < ((kvs.map (·.2)).zip (kos.map (·.2))).length := by rw [List.length_zip, List.length_map, List.length_map]; omega
    rw [zipSet]
    have p1 := permAt hz
    have p2 := permSetP hz (y, x)
    have r2 := r.perm (List.perm_middle)
    have r3 : Rel K mg H Ex ((y, x) :: (((kvs.map (·.2)).zip (kos.map (·.2)))[j] :: (((kvs.map (·.2)).zip (kos.map (·.2))).eraseIdx j ++ rs))) ws := r2.perm ((p1.append_right rs).cons _)
    have r4 := (r3.perm (.swap _ _ _)).drop
    exact r4.perm ((p2.append_right rs).symm)
theorem es_fs (i : Nat) {c f xn : Str} {pp : Pos} (h : Ev X W pu e m) (cf : CF X.K X.mg c f) (hN : X.N[i]? = some xn := by rfl) (hv : Vis X.env.scope xn := by first | exact Or.inl rfl | exact Or.inr (Or.inl rfl) | exact Or.inr (Or.inr rfl)) (hdd1 : (xn == ("__debug__" : Str)) = false := by decide) (hcd : (xn == ("__classdict__" : Str)) = false := by decide)
    (hs : swapsWith e (some (.Attribute (.Name xn pp) f apos)) pos.line X.env = pure false := by rfl) : EvS X W np (.Assign [.Attribute (.Name xn pp) f apos] e pos) (fsM i c f m) := by
  obtain ⟨t, h1, h2⟩ := h.ex
  obtain ⟨C, hC, hcl, hna⟩ := cf.ex
  refine ⟨_, ps_fld (pv i hN hv hdd1 hcd) h1 hs, fun σ H D g T Ex a w => h2 σ H _ g T Ex [] a (w.bd.imp (fun o g' k y H' s a' => ?_) fun x g' k H' cls d a' z => k σ H' cls d .refl a' z)⟩
  split at k
  · rename_i c' fs hg
    split at k
    · rename_i hc
      obtain ⟨rfl, hnd, hlen⟩ := hc
      obtain ⟨v, hv'⟩ := a'.fit.at_ _ _ hg
      have r := (a'.get hg hv').noviews
      obtain ⟨ad, ho, vs, os, e1, e2, p, hl, r2⟩ := r.opn rfl
      cases p with
      | ins hm hk =>
        rename_i C' dx fvs
        rw [hC] at hm; cases hm
        have hl2 : fvs.length = fs.length := by have := congrArg List.length hk; simpa using this
        refine ⟨v, hv', ad, _, dx, fvs, e1, e2, hcl, hna, by omega, ?_⟩
        refine k σ _ .refl ?_
        rw [putF_eq]
        subst e1
        refine .put a'.fit hv' ?_
        have r3 := r2.write (.ins C dx (putD fvs f y))
        have r4 := Rel.putAt (key := f) hk (r3.perm (List.Perm.append_left _ (List.perm_middle)))
        have hk2 : (putD fvs f y).map (·.1) = (putD fs f o).map (·.1) := (putD_keys ⟨hk, hnd⟩).1
        exact r4.shut (.ins hC hk2) (by have := congrArg List.length hk2; simpa using this)
    · exact k.elim
  · exact k.elim
end
end Z
namespace Z
open PySem PySem.Spec L2
section
variable {K : PySem.W.Frag} {mg : Str → Option Value} {H H' : Hp} {Ex : List (Addr × HO)} {rs ws : Roots}
theorem Rel.putK {w y : V} {kos : List (Key × O)} {x : O} {key : Key} (r : Rel K mg H Ex ((w, .dK kos) :: (y, x) :: rs) ws) : ∃ ad kvs, w = .ref ad ∧ H ad = some (.dK kvs) ∧ kvs.length = kos.length ∧ Rel K mg (upd H ad (.dK (L2.putK kvs key y))) Ex ((w, .dK (putD kos key x)) :: rs) [] := by
  obtain ⟨ad, ho, vs, os1, e1, e2, p, hl, r2⟩ := r.opn rfl
  cases p with
  | dK hk =>
    rename_i kvs
    refine ⟨ad, kvs, e1, e2, by have := congrArg List.length hk.1; simpa using this, ?_⟩
    subst e1
    rw [putK_fix (by rw [hk.1]; exact hk.2)]
    have r3 := r2.write (.dK (putD kvs key y))
    have hk2 : Keq ((putD kvs key y).map (·.1)) ((putD kos key x).map (·.1)) := putD_keys hk
    exact (Rel.putAt (key := key) hk.1 r3).shut (.dK hk2) (by have := congrArg List.length hk2.1; simpa using this)
theorem Rel.hole {ad : Addr} (r : Rel K mg H Ex rs ws) : Rel K mg H Ex ((.ref ad, .hole ad) :: rs) ws := by
  obtain ⟨Hf, as, s, he, ho, nd, hn, hw⟩ := r.ex
  exact ⟨Hf, as, s, he, .cons (as := []) .hole ho, nd, hn, hw⟩
theorem Rel.isHole {v : V} {ad : Addr} (r : Rel K mg H Ex ((v, .hole ad) :: rs) ws) : v = .ref ad := by
  obtain ⟨Hf, as, s, he, ho, nd, hn, hw⟩ := r.ex
  cases ho with
  | cons h t => cases h; rfl
end
def adr : V → Addr
  | .ref a => a
  | _ => 0
end Z
namespace Z
open PySem PySem.Spec L2
def lkD {α β : Type} [DecidableEq α] (l : List (α × β)) (k : α) : Option β := match fix1 (l.map (·.1)) k with
  | some j => (l.map (·.2))[j]?
  | none => none
def dKey : PyData → Option (Key ⊕ List Key)
  | .int i => some (.inl (.inl i))
  | .str s => some (.inl (.inr s))
  | .tuple ds => (intsOf ds).map fun is => .inr (kk is)
  | _ => none
def lkO : O → Key ⊕ List Key → Option (Option O)
  | .dK kos, .inl k => some (lkD kos k)
  | .dT kos, .inr k => some (lkD kos k)
  | .gD kds, .inr k => some ((lkD kds k).map O.d)
  | .gK kds, .inl k => some ((lkD kds k).map O.d)
  | .fr (.dK kos), .inl k => some ((lkD kos k).map mkFr)
  | .fr (.dT kos), .inr k => some ((lkD kos k).map mkFr)
  | _, _ => none
theorem lkD_val {α : Type} [DecidableEq α] {l : List (α × V)} {k : α} : valV l k = lkD l k := valV_fix
theorem lkD_pair {α β γ : Type} [DecidableEq α] {l : List (α × β)} {m : List (α × γ)} {k : α} (h : l.map (·.1) = m.map (·.1)) : (lkD l k = none ∧ lkD m k = none) ∨ ∃ (j : Nat) (u : β) (z : γ), lkD l k = some u ∧ lkD m k = some z ∧ (l.map (·.2))[j]? = some u ∧ (m.map (·.2))[j]? = some z := by
  unfold lkD
  rw [h]
  cases q : fix1 (m.map (·.1)) k with
  | none => exact .inl ⟨rfl, rfl⟩
  | some j =>
    have hj : j < m.length := by
      have := (List.getElem?_eq_some_iff.mp (fix1_some q).1).1
      simpa using this
    have hl : l.length = m.length := by have := congrArg List.length h; simpa using this
    have h1 : j < (l.map (·.2)).length := by simpa [hl] using hj
    have h2 : j < (m.map (·.2)).length := by simpa using hj
    exact .inr ⟨j, _, _, List.getElem?_eq_getElem h1, List.getElem?_eq_getElem h2, List.getElem?_eq_getElem h1, List.getElem?_eq_getElem h2⟩
section
variable {K : PySem.W.Frag} {mg : Str → Option Value} {H H' : Hp} {Ex : List (Addr × HO)} {rs ws : Roots} {Hf : Fz}
/-- a key's look -/
theorem lkSee {v y : V} {o : O} {as : List Addr} {kd : PyData} {k : Key ⊕ List Key} {r : Option O} (s : Hf.on K H) (h : Ow K mg Hf H v o as) (hy : Dp K Hf.h y kd) (hk : dKey kd = some k) (e : lkO o k = some r) :
    ∃ ad ro, v = .ref ad ∧ IsD H ad ∧ DGet H ad y ro ∧ ((ro = none ∧ r = none) ∨ ∃ u z cs, ro = some u ∧ r = some z ∧ Ow K mg Hf H u z cs) := by
  have keyI : ∀ {k : Key}, dKey kd = some (.inl k) → y = kV k := fun {k} hk => by
    clear e
    cases kd with
    | int i => simp [dKey] at hk; subst hk; cases hy; rfl
    | str i => simp [dKey] at hk; subst hk; cases hy; rfl
    | tuple ds => simp only [dKey] at hk; cases q : intsOf ds <;> rw [q] at hk <;> simp at hk
    | _ => simp [dKey] at hk
  have keyT : ∀ {k : List Key}, dKey kd = some (.inr k) → ∃ b, y = .ref b ∧ H b = some (.tup (k.map kV)) := fun {k} hk2 => by
    clear hk
    cases kd with
    | tuple ds =>
      simp only [dKey] at hk2
      cases q : intsOf ds with
      | none => rw [q] at hk2; simp at hk2
      | some is =>
        rw [q] at hk2
        simp at hk2
        have hd := intsOf_eq q
        subst hd
        subst hk2
        obtain ⟨b, e1, e2⟩ := dpKey hy
        exact ⟨b, e1, s.same _ _ e2⟩
    | _ => simp [dKey] at hk2
  cases o with
  | dK kos =>
    cases k with
    | inr k => simp [lkO] at e
    | inl k =>
      simp only [lkO, Option.some.injEq] at e
      cases h with
      | dK q hq t =>
        rename_i ad kvs cs
        refine ⟨ad, lkD kvs k, rfl, .inl ⟨_, .inl q⟩, .inl ⟨kvs, k, .inl q, keyI hk, lkD_val.symm⟩, ?_⟩
        rcases lkD_pair (k := k) hq.1 with ⟨h1, h2⟩ | ⟨j, u, z, h1, h2, h3, h4⟩
        · exact .inl ⟨h1, by rw [← e, h2]⟩
        · obtain ⟨cs, hc⟩ := owLGetO t h3 h4
          exact .inr ⟨u, z, cs, h1, by rw [← e, h2], hc⟩
  | dT kos =>
    cases k with
    | inl k => simp [lkO] at e
    | inr k =>
      simp only [lkO, Option.some.injEq] at e
      obtain ⟨b, rfl, hb⟩ := keyT hk
      cases h with
      | dT q hq t =>
        rename_i ad kvs cs
        refine ⟨ad, lkD kvs k, rfl, .inr ⟨_, .inl q⟩, .inr ⟨kvs, k, b, .inl q, rfl, hb, lkD_val.symm⟩, ?_⟩
        rcases lkD_pair (k := k) hq.1 with ⟨h1, h2⟩ | ⟨j, u, z, h1, h2, h3, h4⟩
        · exact .inl ⟨h1, by rw [← e, h2]⟩
        · obtain ⟨cs, hc⟩ := owLGetO t h3 h4
          exact .inr ⟨u, z, cs, h1, by rw [← e, h2], hc⟩
  | gD kds =>
    cases k with
    | inl k => simp [lkO] at e
    | inr k =>
      simp only [lkO, Option.some.injEq] at e
      obtain ⟨b, rfl, hb⟩ := keyT hk
      cases h with
      | gD q hq t =>
        rename_i ad ob kvs
        refine ⟨ad, lkD kvs k, rfl, .inr ⟨_, .inr ⟨_, s.same _ _ q⟩⟩, .inr ⟨kvs, k, b, .inr ⟨_, s.same _ _ q⟩, rfl, hb, lkD_val.symm⟩, ?_⟩
        rcases lkD_pair (k := k) hq with ⟨h1, h2⟩ | ⟨j, u, z, h1, h2, h3, h4⟩
        · exact .inl ⟨h1, by rw [← e, h2]; rfl⟩
        · exact .inr ⟨u, .d z, [], h1, by rw [← e, h2]; rfl, .d (dpGet' t j u z h3 h4)⟩
  | gK kds =>
    cases k with
    | inr k => simp [lkO] at e
    | inl k =>
      simp only [lkO, Option.some.injEq] at e
      cases h with
      | gK q hq t =>
        rename_i ad ob kvs
        refine ⟨ad, lkD kvs k, rfl, .inl ⟨_, .inr ⟨_, s.same _ _ q⟩⟩, .inl ⟨kvs, k, .inr ⟨_, s.same _ _ q⟩, keyI hk, lkD_val.symm⟩, ?_⟩
        rcases lkD_pair (k := k) hq with ⟨h1, h2⟩ | ⟨j, u, z, h1, h2, h3, h4⟩
        · exact .inl ⟨h1, by rw [← e, h2]; rfl⟩
        · exact .inr ⟨u, .d z, [], h1, by rw [← e, h2]; rfl, .d (dpGet' t j u z h3 h4)⟩
  | fr o =>
    cases h with
    | fr n h =>
      cases o with
      | dK kos =>
        cases k with
        | inr k => simp [lkO] at e
        | inl k =>
          simp only [lkO, Option.some.injEq] at e
          cases h with
          | dK q hq t =>
            rename_i ad kvs cs
            have q' := s.same _ _ q
            refine ⟨ad, lkD kvs k, rfl, .inl ⟨_, .inl q'⟩, .inl ⟨kvs, k, .inl q', keyI hk, lkD_val.symm⟩, ?_⟩
            rcases lkD_pair (k := k) hq.1 with ⟨h1, h2⟩ | ⟨j, u, z, h1, h2, h3, h4⟩
            · exact .inl ⟨h1, by rw [← e, h2]; rfl⟩
            · obtain ⟨cs, hc⟩ := owLGetO t h3 h4
              exact .inr ⟨u, _, [], h1, by rw [← e, h2]; rfl, owFr hc⟩
      | dT kos =>
        cases k with
        | inl k => simp [lkO] at e
        | inr k =>
          simp only [lkO, Option.some.injEq] at e
          obtain ⟨b, rfl, hb⟩ := keyT hk
          cases h with
          | dT q hq t =>
            rename_i ad kvs cs
            have q' := s.same _ _ q
            refine ⟨ad, lkD kvs k, rfl, .inr ⟨_, .inl q'⟩, .inr ⟨kvs, k, b, .inl q', rfl, hb, lkD_val.symm⟩, ?_⟩
            rcases lkD_pair (k := k) hq.1 with ⟨h1, h2⟩ | ⟨j, u, z, h1, h2, h3, h4⟩
            · exact .inl ⟨h1, by rw [← e, h2]; rfl⟩
            · obtain ⟨cs, hc⟩ := owLGetO t h3 h4
              exact .inr ⟨u, _, [], h1, by rw [← e, h2]; rfl, owFr hc⟩
      | _ => cases k <;> simp [lkO] at e
  | _ => cases k <;> simp [lkO] at e
end
end Z
namespace Z
open PySem PySem.Spec L2
section
variable {K : PySem.W.Frag} {mg : Str → Option Value} {H H' : Hp} {Ex : List (Addr × HO)} {rs ws : Roots}
def zpD : List PyData → List PyData → List PyData
  | x :: xs, y :: ys => .tuple [x, y] :: zpD xs ys
  | _, _ => []
theorem zpD_len : ∀ {xs ys : List PyData}, (zpD xs ys).length = min xs.length ys.length
  | [], ys => by simp [zpD]
  | _ :: _, [] => by simp [zpD]
  | x :: xs, y :: ys => by simp only [zpD, List.length_cons, zpD_len (xs := xs) (ys := ys)]; omega
theorem zpD_get : ∀ {xs ys : List PyData} {i : Nat} (h : i < (zpD xs ys).length) (h1 : i < xs.length) (h2 : i < ys.length), (zpD xs ys)[i] = .tuple [xs[i], ys[i]]
  | x :: xs, y :: ys, 0, _, _, _ => rfl
  | x :: xs, y :: ys, i + 1, h, h1, h2 => by
    simp only [zpD, List.getElem_cons_succ]
    exact zpD_get _ _ _
  | [], _, _, _, h1, _ => by simp at h1
  | _ :: _, [], _, _, _, h2 => by simp at h2
end
section
variable {X : Cx} {W : WX} {pu pv pw : Bool} {H H' : Hp} {Ex : List (Addr × HO)} {σ σ' : L2.St} {g : Gs} {T T' ws ws' rs : Roots} {e a b o lo hi d : Expr} {es : List Expr} {m md mk mx : M O} {mp : M Pth} {ms : M (List O)} {pos p p2 apos : Pos} {k j np : Nat} {x : Str}
def isNon : PyData → Bool
  | .none => true
  | _ => false
def isNF (neg : Bool) : List O → Option O
  | [.d x, .d .none] => some (.d (.bool (if neg then !isNon x else isNon x)))
  | [.exc _ _, .d .none] => some (.d (.bool neg))
  | _ => none
theorem isN_of {neg : Bool} {xs : List V} {os : List O} {z : O} (hl : xs.length = os.length) (r : Rel X.K X.mg H Ex rs (xs.zip os ++ ws)) (hf : isNF neg os = some z) : ∃ x, xs = [x, .non] ∧ z = .d (.bool (if neg then !decide (x = V.non) else decide (x = V.non))) := by
  unfold isNF at hf
  split at hf
  · rename_i d
    cases hf
    obtain ⟨x, y, rfl⟩ := two hl
    obtain ⟨Hf, s, hw, cl⟩ := r.fr
    obtain ⟨_, h1⟩ := hw _ zipHead
    obtain ⟨_, h2⟩ := hw _ zipSnd
    obtain rfl := owN h2
    refine ⟨x, rfl, ?_⟩
    have : isNon d = decide (x = V.non) := by
      cases h1 with
      | d h1 => cases h1 <;> simp [isNon]
    rw [this]
  · cases hf
    obtain ⟨x, y, rfl⟩ := two hl
    obtain ⟨Hf, s, hw, cl⟩ := r.fr
    obtain ⟨_, h1⟩ := hw _ zipHead
    obtain ⟨_, h2⟩ := hw _ zipSnd
    obtain rfl := owN h2
    refine ⟨x, rfl, ?_⟩
    have : decide (x = V.non) = false := by
      cases h1 with
      | exc _ _ _ => rfl
    rw [this]
    cases neg <;> rfl
  · cases hf
theorem pr_isN : PR X (r2L fun x y H Q => y = V.non ∧ Q (V.bl (decide (x = V.non))) H) (isNF false) := by
  intro xs os H Ex rs ws Q o hl r hf k
  obtain ⟨x, rfl, rfl⟩ := isN_of hl r hf
  exact ⟨rfl, k _ _ (Same.refl _) (r.data fun _ => .bl _)⟩
def dictO : O → Bool
  | .dK _ => true
  | .dT _ => true
  | .gD _ => true
  | .gK _ => true
  | .fr (.dK _) => true
  | .fr (.dT _) => true
  | _ => false
theorem dictSee {Hf : Fz} {v : V} {o : O} {as : List Addr} (s : Hf.on X.K H) (h : Ow X.K X.mg Hf H v o as) (ho : dictO o = true) : ∃ ad, v = .ref ad ∧ IsD H ad := by
  cases o with
  | dK kos => cases h with | dK q _ _ => exact ⟨_, rfl, .inl ⟨_, .inl q⟩⟩
  | dT kos => cases h with | dT q _ _ => exact ⟨_, rfl, .inr ⟨_, .inl q⟩⟩
  | gD kds => cases h with | gD q _ _ => exact ⟨_, rfl, .inr ⟨_, .inr ⟨_, s.same _ _ q⟩⟩⟩
  | gK kds => cases h with | gK q _ _ => exact ⟨_, rfl, .inl ⟨_, .inr ⟨_, s.same _ _ q⟩⟩⟩
  | fr x =>
    cases h with
    | fr n h =>
      cases x with
      | dK kos => cases h with | dK q _ _ => exact ⟨_, rfl, .inl ⟨_, .inl (s.same _ _ q)⟩⟩
      | dT kos => cases h with | dT q _ _ => exact ⟨_, rfl, .inr ⟨_, .inl (s.same _ _ q)⟩⟩
      | _ => simp [dictO] at ho
  | _ => simp [dictO] at ho
def getM (md mk mx : M O) : M O := M.bd md fun o g => if dictO o = true then (M.bd mk fun ok => M.bd mx fun ox g => match ok with
  | .d kd => match dKey kd with
    | some k => match lkO o k with
      | some (some z) => if z.isG = true then .ok z g else .bad
      | some none => .ok ox g
      | none => .bad
    | none => .bad
  | _ => .bad) g else .bad
theorem ev_get (c : Cc X W k) (h : EvP X W pu d md) (hk : Ev X W true e mk) (hx : Ev X W true a mx) (hM : M2 X d "get" apos e a pos := by exact ⟨rfl, rfl, rfl, rfl⟩) : Ev X W pu (.Call (.Attribute d "get" apos) [e, a] [] pos) (getM md mk mx) := by
  obtain ⟨t, h1, h2⟩ := h.ex
  obtain ⟨u, k1, k2⟩ := hk.ex
  obtain ⟨w3, x1, x2⟩ := hx.ex
  refine ⟨_, pe_dget2 (by have := c.hr.units; omega) h1 k1 x1 hM, fun σ H Q g T Ex ws a0 w => ?_⟩
  refine h2 σ H _ g T Ex ws a0 (w.bd.imp (fun o g' kq v H' s a' => ?_) fun _ _ kq => kq)
  split at kq
  · rename_i hdo
    have hD : ∃ ad, v = .ref ad ∧ IsD H' ad := by
      obtain ⟨Hf, as, sf, he, ho, nd, hn, hw⟩ := a'.rel.ex
      obtain ⟨bs, hb⟩ := hw _ List.mem_cons_self
      exact dictSee sf hb hdo
    obtain ⟨ad, rfl, hI⟩ := hD
    refine ⟨ad, rfl, hI, ?_⟩
    refine k2 σ H' _ g' T Ex _ a' ((Wp.bd kq).imp (fun ok g2 kq2 y H2 s2 a2 => ?_) fun _ _ kq => kq)
    obtain ⟨e2, s2'⟩ := s2 rfl
    subst e2
    refine x2 σ H2 _ g2 _ Ex _ a2 (kq2.bd.imp (fun ox g3 kq3 z H3 s3 a3 => ?_) fun x g3 k H3 cls dd a3 => k H3 cls dd a3.drop)
    obtain ⟨e3, s3'⟩ := s3 rfl
    subst e3
    split at kq3
    · rename_i kd
      split at kq3
      · rename_i key hkey
        have r3 : Rel X.K X.mg H3 Ex ((y, .d kd) :: (z, ox) :: (roots σ g3 ++ T)) ((.ref ad, o) :: Vs pu ws) := by
          refine (a3.rel.views fun p m => m).perm ?_
          exact (List.perm_middle.trans (.cons _ List.perm_middle)).trans (.swap _ _ _)
        obtain ⟨Hf, as, sf, he, ho, nd, hn, hw⟩ := r3.see.ex
        obtain ⟨b1, hb1⟩ := hw (y, .d kd) List.mem_cons_self
        obtain ⟨b2, hb2⟩ := hw (.ref ad, o) (List.mem_cons_of_mem _ List.mem_cons_self)
        have r4 := r3.drop
        have sm : pu = true → g3 = g ∧ Same H H3 := fun zz => by
          obtain ⟨p1, p2⟩ := s zz
          exact ⟨p1, (p2.trans s2').trans s3'⟩
        split at kq3
        · rename_i zz hz
          split at kq3
          · rename_i hg
            cases hb1 with
            | d hb1 =>
              obtain ⟨ad', ro, p1, _, p2, p3⟩ := lkSee sf hb2 hb1 hkey hz
              cases p1
              rcases p3 with ⟨_, p3⟩ | ⟨uu, z', cs, p3, p4, p5⟩
              · cases p3
              · cases p4
                subst p3
                refine ⟨_, p2, ?_⟩
                have r5 : Rel X.K X.mg H3 Ex (roots σ g3 ++ T) ((uu, zz) :: Vs pu ws) := by
                  have r6 : Rel X.K X.mg H3 Ex ((y, .d kd) :: (z, ox) :: (roots σ g3 ++ T)) ((uu, zz) :: Vs pu ws) := ⟨Hf, as, sf, he, ho, nd, hn, fun p m => by
                    rcases List.mem_cons.mp m with e | m
                    · subst e; exact ⟨cs, p5⟩
                    · exact hw p (List.mem_cons_of_mem _ (List.mem_cons_of_mem _ m))⟩
                  exact r6.drop.drop
                exact kq3 uu H3 sm (.ofTop a3.fit ((r5.ofViewG hg).views fun p m => List.mem_cons_of_mem _ m))
          · exact kq3.elim
        · rename_i hz
          cases hb1 with
          | d hb1 =>
            obtain ⟨ad', ro, p1, _, p2, p3⟩ := lkSee sf hb2 hb1 hkey hz
            cases p1
            rcases p3 with ⟨p3, _⟩ | ⟨uu, z', cs, p3, p4, p5⟩
            · subst p3
              refine ⟨_, p2, ?_⟩
              exact kq3 z H3 sm (.ofTop a3.fit (r4.views fun p m => List.mem_cons_of_mem _ m))
            · cases p4
        · exact kq3.elim
      · exact kq3.elim
    · exact kq3.elim
  · exact kq.elim
end
end Z
namespace Z
open PySem PySem.Spec L2
end Z
namespace Z
open PySem PySem.Spec L2
class UnfC (o : O) (o' : outParam O) : Prop where
  eq : unfr o = o'
instance unfD {x : PyData} : UnfC (.d x) (.d x) := ⟨rfl⟩
class GrC (o : O) : Prop where
  eq : o.isG = true
instance grD {x : PyData} : GrC (.d x) := ⟨rfl⟩
def CpK (A : O → Gs → Prop) (o : O) (g : Gs) : Prop := o.isG = true ∧ A o g
def GetR (A : O → Gs → Prop) (ox : O) (g : Gs) : Option O → Prop
  | some z => z.isG = true ∧ A z g
  | none => A ox g
theorem GetR.no {A : O → Gs → Prop} {ox : O} {g : Gs} (h : A ox g) : GetR A ox g none := h
theorem GetR.so {A : O → Gs → Prop} {ox z : O} {g : Gs} (hz : z.isG = true) (h : A z g) : GetR A ox g (some z) := ⟨hz, h⟩
def GetK (mk mx : M O) (A : O → Gs → Prop) (B : Exn → Gs → Prop) (o : O) (g : Gs) : Prop := dictO o = true ∧ Wp (mk g) (fun ok g1 => Wp (mx g1) (fun ox g2 => ∃ kd k r, ok = .d kd ∧ dKey kd = some k ∧ lkO o k = some r ∧ GetR A ox g2 r) B) B
section
variable {A : O → Gs → Prop} {AU : Unit → Gs → Prop} {AF : Fl → Gs → Prop} {AP : Pth → Gs → Prop} {AD : List PyData → Gs → Prop} {B : Exn → Gs → Prop} {g g' : Gs} {m n md mk mx mi : M O} {mp : M Pth} {i : Nat} {o : O} {os os' : List O} {AO : O → Prop} {x : Int} {ds es : List PyData} {f : List O → M Unit}
instance s_cp : Stp (Wp (cpM m g) A B) (Wp (m g) (CpK A) B) := ⟨fun h => by
  unfold cpM
  refine (wp_bd (m := m)).mpr (h.mono (fun o g1 q => ?_) fun _ _ z => z)
  rw [if_pos q.1]
  exact q.2⟩
instance s_cpK [c : GrC o] : Stp (CpK A o g) (A o g) := ⟨fun h => ⟨c.eq, h⟩⟩
instance s_plN [h : Get g i (some o)] : Stp (Wp (plN i g) AP B) (AP [] g) := ⟨fun k => by unfold plN; rw [h.get]; exact k⟩
instance s_get : Stp (Wp (getM md mk mx g) A B) (Wp (md g) (GetK mk mx A B) B) := ⟨fun h => by
  unfold getM
  refine (wp_bd (m := md)).mpr (h.mono (fun o g1 q => ?_) fun _ _ z => z)
  rw [if_pos q.1]
  refine (wp_bd (m := mk)).mpr (q.2.mono (fun ok g2 q => ?_) fun _ _ z => z)
  refine (wp_bd (m := mx)).mpr (q.mono (fun ox g3 q => ?_) fun _ _ z => z)
  obtain ⟨kd, k, r, rfl, e1, e2, q⟩ := q
  simp only [e1, e2]
  cases r with
  | none => exact q
  | some z => simp only; rw [if_pos q.1]; exact q.2⟩
instance o_isN {x : PyData} : Stp (optW (isNF false [.d x, .d .none]) AO) (AO (.d (.bool (isNon x)))) := ⟨id⟩
end
end Z
namespace Z
open PySem PySem.Spec L2
end Z
namespace Z
open PySem PySem.Spec L2
section
variable {X : Cx} {W : WX} {pu pv : Bool} {H H' : Hp} {Ex : List (Addr × HO)} {σ σ' : L2.St} {g : Gs} {T T' ws ws' rs : Roots} {e a b o : Expr} {es : List Expr} {m mo : M O} {pos p apos : Pos} {k j np : Nat} {x : Str} {dfs : List PyData} {f : Fn} {ms : M (List Arg)}
/-- a class called: its __init__ is done on a new instance -/
def mkM (c : Str) (f : Fn) (dfs : List PyData) (ms : M (List Arg)) : M O := M.bd ms fun as g => match takeA as g with
  | some (os, g') => (f (.ins c [] :: (os ++ dfs.map O.d))).res (fun r ps => match r, ps with
    | .d .none, s :: ps => if ps.length = (os ++ dfs.map O.d).length then .ok s (giveA as (ps.take os.length) g') else .bad
    | _, _ => .bad) g'
  | none => .bad
theorem Rel.newIns {K : PySem.W.Frag} {mg : Str → Option Value} {x dx C : Addr} {c : Str} (r : Rel K mg H Ex rs ws) (hx : H x = none) (hd : H dx = none) (ne : dx ≠ x) (hC : mg c = some (.ref C)) :
    Rel K mg (upd (upd H dx (.own x)) x (.ins C dx [])) Ex ((.ref x, .ins c []) :: rs) ws := by
  have r1 := r.same (sameNew hd (.own x))
  have hx1 : upd H dx (.own x) x = none := by rw [upd_ne (Ne.symm ne)]; exact hx
  have r2 := r1.new (.ins C dx []) hx1
  exact r2.shut (vs := []) (os := []) (.ins (fvs := []) (fos := []) hC rfl) rfl
theorem mkCore {C : Addr} {c : Str} {dvs : List V} {vs : List V} {as : List Arg} {Q : VK} (hC : X.mg c = some (.ref C)) (hdd : ∀ Hf, DpAll X.K Hf dvs dfs) (sl : SlOk σ vs as) (a : At X H Ex σ g (valR vs as ++ T) []) (hl : (vs ++ dvs).length + 1 = np)
    (w : Wp ((match takeA as g with
      | some (os, g') => (f (.ins c [] :: (os ++ dfs.map O.d))).res (fun r ps => match r, ps with
        | .d .none, s :: ps => if ps.length = (os ++ dfs.map O.d).length then .ok s (giveA as (ps.take os.length) g') else .bad
        | _, _ => .bad) g'
      | none => .bad : Res O)) (fun o g' => ∀ v H', At X H' Ex σ g' ((v, o) :: T) [] → Q v H') (fun x g' => ∀ H' cls d, At X H' Ex σ g' T [] → ExAt X.mg Ex cls d H' x → W cls d σ H'))
    {x dx : Addr} (hx : H x = none) (hd : H dx = none) (ne : dx ≠ x) :
    spF X.K X.mg np f (.ref x :: (vs ++ dvs)) (upd (upd H dx (.own x)) x (.ins C dx [])) (fun v H2 => v = .non ∧ Q (.ref x) H2) (fun cls d H' => W cls d σ H') := by
  cases q : takeA as g with
  | none => rw [q] at w; exact w.elim
  | some p =>
    obtain ⟨os, g'⟩ := p
    rw [q] at w
    obtain ⟨h1, h2, h3⟩ := takeRel sl a.fit a.rel q
    obtain ⟨h4, h5⟩ := relDfs (rs := roots σ g' ++ (vs.zip os ++ T)) hdd h3
    have hz : (vs ++ dvs).zip (os ++ dfs.map O.d) = vs.zip os ++ dvs.zip (dfs.map O.d) := List.zip_append h1
    have hl2 : (os ++ dfs.map O.d).length + 1 = np := by
      rw [← hl, List.length_append, List.length_append, List.length_map, h1, h5]
    have r1 : Rel X.K X.mg H Ex ((vs ++ dvs).zip (os ++ dfs.map O.d) ++ (roots σ g' ++ T)) [] := by
      rw [hz]
      refine h4.perm ?_
      rw [← List.append_assoc, ← List.append_assoc]
      have p1 : (dvs.zip (dfs.map O.d) ++ roots σ g').Perm (roots σ g' ++ dvs.zip (dfs.map O.d)) := List.perm_append_comm
      have p2 : (dvs.zip (dfs.map O.d) ++ roots σ g' ++ (vs.zip os ++ T)).Perm (vs.zip os ++ (dvs.zip (dfs.map O.d) ++ roots σ g') ++ T) := by
        rw [← List.append_assoc]
        exact (List.perm_append_comm).append_right T
      rw [← List.append_assoc]
      refine (List.Perm.of_eq (by simp)).trans (p2.trans (List.Perm.of_eq (by simp)))
    refine ⟨by simp only [List.length_cons]; omega, .ins c [] :: (os ++ dfs.map O.d), Ex, roots σ g' ++ T, by simp only [List.length_cons]; omega, ?_, ?_⟩
    · rw [List.zip_cons_cons, List.cons_append]
      exact r1.newIns hx hd ne hC
    · have w2 := FRes.wp_res.mp w
      refine w2.imp (fun r ps k => ?_) (fun x k => ?_)
      · split at k
        · rename_i s ps'
          split at k
          · rename_i hps
            refine ⟨by rw [List.length_cons, hps]; exact hl2, fun v H' r3 => ?_⟩
            have hv : v = .non := by
              obtain ⟨Hf, _, d, _⟩ := r3.headDp
              cases d; rfl
            refine ⟨hv, k _ H' ?_⟩
            have r4 := r3.drop
            rw [List.zip_cons_cons, List.cons_append] at r4
            have lt : (ps'.take os.length).length = os.length := by
              rw [List.length_take, hps, List.length_append]; omega
            have hps2 : ps' = ps'.take os.length ++ ps'.drop os.length := (List.take_append_drop _ _).symm
            have hz2 : (vs ++ dvs).zip ps' = vs.zip (ps'.take os.length) ++ dvs.zip (ps'.drop os.length) := by
              conv => lhs; rw [hps2]
              exact List.zip_append (by rw [lt, h1])
            rw [hz2] at r4
            have r5 : Rel X.K X.mg H' Ex (dvs.zip (ps'.drop os.length) ++ (roots σ g' ++ (vs.zip (ps'.take os.length) ++ ((.ref x, s) :: T)))) [] := by
              refine r4.perm ?_
              have q1 : (((V.ref x, s) : V × O) :: (vs.zip (ps'.take os.length) ++ dvs.zip (ps'.drop os.length) ++ (roots σ g' ++ T))).Perm ((vs.zip (ps'.take os.length) ++ dvs.zip (ps'.drop os.length) ++ roots σ g') ++ ((V.ref x, s) :: T)) := by
                rw [← List.append_assoc]
                exact List.perm_middle.symm
              refine q1.trans ?_
              have q2 : (vs.zip (ps'.take os.length) ++ dvs.zip (ps'.drop os.length) ++ roots σ g').Perm (dvs.zip (ps'.drop os.length) ++ roots σ g' ++ vs.zip (ps'.take os.length)) := by
                rw [List.append_assoc]
                exact List.perm_append_comm
              refine (q2.append_right _).trans (List.Perm.of_eq (by simp))
            have r6 := r5.dropL
            exact giveRel sl (by rw [lt, h1]) h2 r6
          · exact k.elim
        · exact k.elim
      · intro H' cls d r3 xa
        refine k H' cls d ⟨h2, r3⟩ xa
theorem ev_mk {c : Str} (cc : Cc X W k) (md : Maker X.prog X.w X.K X.mg X.base c j np dfs f) (hj : j + 1 ≤ k) (hg : Gl X c) (h : EvU X W (e :: es) ms) (hn : (e :: es).length + dfs.length + 1 = np := by rfl)
    (hdb : (c == ("__debug__" : Str)) = false := by decide) (he : starEach (e :: es) X.env = (false, eval e X.env) :: starEach es X.env := by rfl) (hpl : (backTo pos (starEach es X.env)).any (·.1) = false := by rfl) :
    Ev X W false (.Call (.Name c p) (e :: es) [] pos) (mkM c f dfs ms) := by
  obtain ⟨C, fa, fd, ps, dvs, ds, F, hm, hk, hb, hd, hdd⟩ := md.ex
  obtain ⟨ts, g1, g2⟩ := h.ex
  refine ⟨_, pkS hk F (cc.hr.mono hj) hg hm hb hd (fun σ => passAt cc.tk σ) g1.pa hdb he hpl, fun σ H Q g T Ex ws a w => ?_⟩
  refine g2 σ H _ g T Ex ws a (w.bd.imp (fun as g' k vs H' hl sl a' => ?_) fun _ _ k => k)
  intro x dx hx hd' ne
  refine mkCore hm hdd sl a' ?_ (k.imp (fun o g2 k v H2 a2 => k v H2 (fun z => by cases z) a2) fun _ _ k => k) hx hd' ne
  rw [List.length_append, hl, dpLen (hdd fun _ => none)]
  exact hn
theorem viewIns2 {K : PySem.W.Frag} {mg : Str → Option Value} {v : V} {c : Str} {fos : List (Str × O)} {q : O} (hq : q = .ins c fos ∨ q = .fr (.ins c fos)) (r : Rel K mg H Ex rs ((v, q) :: ws)) : ∃ a C dx fvs, v = .ref a ∧ H a = some (.ins C dx fvs) ∧ mg c = some (.ref C) ∧ fvs.map (·.1) = fos.map (·.1) := by
  rcases hq with rfl | rfl
  · exact viewIns r
  · exact viewIns (r.unfr)
end
end Z
namespace Z
open PySem PySem.Spec L2
end Z
namespace Z
open PySem PySem.Spec L2
section
variable {X : Cx} {W : WX} {pu pv pw : Bool} {H H' : Hp} {Ex : List (Addr × HO)} {σ σ' : L2.St} {g : Gs} {T T' ws ws' rs : Roots} {e a b o lo hi : Expr} {es : List Expr} {m : M O} {mp : M Pth} {ms : M (List O)} {pos p p2 apos : Pos} {k j np : Nat} {x : Str}
theorem boot_list_0 : bootBuiltins "list" = some (.type "list") := by decide +kernel
end
end Z
namespace L2.DX
open PySem PySem.Spec PyProof.Rows
end L2.DX
namespace Z
open PySem PySem.Spec L2
end Z
namespace Z
open PySem PySem.Spec L2
end Z
namespace Z
open PySem PySem.Spec L2
def insOk (c m : Str) : O → Bool
  | .ins c' fos => decide (c' = c) && noKey m fos
  | .fr (.ins c' fos) => decide (c' = c) && noKey m fos
  | _ => false
def methS (c m : Str) (i : Nat) (f : Fn) (dfs : List PyData) (ms : M (List Arg)) : M O := fun g => match g[i]? with
  | some (some q) => if insOk c m q = true then callM f dfs (slA i ms) g else .bad
  | _ => .bad
theorem insOk_is {c m : Str} {q : O} (h : insOk c m q = true) : ∃ fos, (q = .ins c fos ∨ q = .fr (.ins c fos)) ∧ noKey m fos = true := by
  unfold insOk at h
  split at h
  · simp only [Bool.and_eq_true, decide_eq_true_eq] at h
    obtain ⟨rfl, h⟩ := h
    exact ⟨_, .inl rfl, h⟩
  · simp only [Bool.and_eq_true, decide_eq_true_eq] at h
    obtain ⟨rfl, h⟩ := h
    exact ⟨_, .inr rfl, h⟩
  · cases h
section
variable {X : Cx} {W : WX} {pu pv pw : Bool} {H H' : Hp} {Ex : List (Addr × HO)} {σ σ' : L2.St} {g : Gs} {T T' ws ws' rs : Roots} {e a b o lo hi : Expr} {es : List Expr} {m mi mv : M O} {mp : M Pth} {ms : M (List Arg)} {pos p p2 apos ap : Pos} {k j np : Nat} {x : Str} {dfs : List PyData} {f : Fn}
theorem ev_methS {c mn : Str} {xn : Str} (i : Nat) {pl : Sem Bool} (cc : Cc X W k) (md : Methd X.prog X.w X.K X.mg X.base c mn j np dfs f) (hj : j ≤ k) (h : EvU X W (e :: es) ms) (hn : (e :: es).length + dfs.length + 1 = np := by rfl)
    (hN : X.N[i]? = some xn := by rfl) (hv : Vis X.env.scope xn := by first | exact Or.inl rfl | exact Or.inr (Or.inl rfl) | exact Or.inr (Or.inr rfl)) (hdd1 : (xn == ("__debug__" : Str)) = false := by decide) (hcd : (xn == ("__classdict__" : Str)) = false := by decide)
    (hst : starEach (e :: es) X.env = (false, eval e X.env) :: starEach es X.env := by rfl) (hpl : (backTo pos (starEach es X.env)).any (·.1) = false := by rfl)
    (ht : eval (.Call (.Attribute (.Name xn p) mn apos) (e :: es) [] pos) X.env = (do
      let ov ← eval (.Name xn p) X.env
      standAt apos.atName
      let (f, first) ← holding [ov] (getMethod ov mn pl)
      callWith pos f first (backTo pos (starEach (e :: es) X.env)) (backToKw pos (keywordEach [] X.env))) := by rfl) :
    Ev X W false (.Call (.Attribute (.Name xn p) mn apos) (e :: es) [] pos) (methS c mn i f dfs ms) := by
  obtain ⟨C, fa, fd, ps, dvs, ds, F, hm, hC, hk, hb, hd, hdd⟩ := md.ex
  obtain ⟨ts, g1, g2⟩ := h.ex
  refine ⟨_, pmS (pv i hN hv hdd1 hcd) hC hk F (cc.hr.mono hj) hb hd (fun σ => passAt cc.tk σ) g1.pa hst hpl ht, fun σ H Q g T Ex ws a w => ?_⟩
  unfold methS at w
  split at w
  · rename_i q hg
    split at w
    · rename_i hcn
      obtain ⟨fos, hq, hnk⟩ := insOk_is hcn
      obtain ⟨v, hv⟩ := a.fit.at_ _ _ hg
      obtain ⟨ad, C', dx, fvs, e1, e2, e3, e4⟩ := viewIns2 hq (a.pk hg hv).rel
      rw [hm] at e3
      cases e3
      refine ⟨v, hv, ad, dx, fvs, e1, e2, noKeyLook hnk e4, ?_⟩
      refine g2 σ H _ g T Ex ws a (w.bd.bd.imp (fun as g' k vs H' hl sl a' => ?_) fun _ _ k => k)
      have k' : Wp _ _ _ := k.rt
      refine callCore (vs := v :: vs) (as := .sl i :: as) hdd ⟨hv, sl⟩ a' ?_ (k'.imp (fun o g2 k v H2 a2 => k v H2 (fun z => by cases z) a2) fun _ _ k => k)
      rw [List.length_append, List.length_cons, hl, dpLen (hdd fun _ => none)]
      rw [← hn]
      omega
    · exact w.elim
  · exact w.elim
theorem ev_methS0 {c mn : Str} {xn : Str} (i : Nat) {pl : Sem Bool} (cc : Cc X W k) (md : Methd X.prog X.w X.K X.mg X.base c mn j np dfs f) (hj : j ≤ k) (hn : dfs.length + 1 = np := by rfl)
    (hN : X.N[i]? = some xn := by rfl) (hv : Vis X.env.scope xn := by first | exact Or.inl rfl | exact Or.inr (Or.inl rfl) | exact Or.inr (Or.inr rfl)) (hdd1 : (xn == ("__debug__" : Str)) = false := by decide) (hcd : (xn == ("__classdict__" : Str)) = false := by decide)
    (ht : eval (.Call (.Attribute (.Name xn p) mn apos) [] [] pos) X.env = (do
      let ov ← eval (.Name xn p) X.env
      standAt apos.atName
      let (f, first) ← holding [ov] (getMethod ov mn pl)
      callWith pos f first (backTo pos (starEach [] X.env)) (backToKw pos (keywordEach [] X.env))) := by rfl) :
    Ev X W false (.Call (.Attribute (.Name xn p) mn apos) [] [] pos) (methS c mn i f dfs (M.ret [])) := by
  obtain ⟨C, fa, fd, ps, dvs, ds, F, hm, hC, hk, hb, hd, hdd⟩ := md.ex
  refine ⟨_, pmS0 (pv i hN hv hdd1 hcd) hC hk F (cc.hr.mono hj) hb hd (fun σ => passAt cc.tk σ) ht, fun σ H Q g T Ex ws a w => ?_⟩
  unfold methS at w
  split at w
  · rename_i q hg
    split at w
    · rename_i hcn
      obtain ⟨fos, hq, hnk⟩ := insOk_is hcn
      obtain ⟨v, hv⟩ := a.fit.at_ _ _ hg
      obtain ⟨ad, C', dx, fvs, e1, e2, e3, e4⟩ := viewIns2 hq (a.pk hg hv).rel
      rw [hm] at e3
      cases e3
      refine ⟨v, hv, ad, dx, fvs, e1, e2, noKeyLook hnk e4, ?_⟩
      have k' : Wp _ _ _ := w.bd.bd.rt.rt
      refine callCore (vs := [v]) (as := [.sl i]) hdd ⟨hv, trivial⟩ a.noV ?_ (k'.imp (fun o g2 k v H2 a2 => k v H2 (fun z => by cases z) a2) fun _ _ k => k)
      rw [List.length_append, dpLen (hdd fun _ => none), ← hn, List.length_singleton]
      omega
    · exact w.elim
  · exact w.elim
end
end Z
namespace Z
open PySem PySem.Spec L2
structure ClsAt (K : PySem.W.Frag) (mg : Str → Option Value) (c : Str) (C : Addr) : Prop where
  m : mg c = some (.ref C)
  cl : Cls K C
structure MethAt (K : PySem.W.Frag) (mg : Str → Option Value) (c mn q : Str) (st : Stmt) : Prop where
  ex : ∃ (C a : Addr) (fd : FuncData), mg c = some (.ref C) ∧ Cls K C ∧ Meth K C mn a ∧ Fun K mn q st a fd
structure MakAt (K : PySem.W.Frag) (mg : Str → Option Value) (c q : Str) (st : Stmt) : Prop where
  ex : ∃ (C a : Addr) (fd : FuncData), mg c = some (.ref C) ∧ Mk K C a ∧ Fun K "__init__" q st a fd
section
variable {K : PySem.W.Frag} {mg : Str → Option Value} {h : Heap} {c mn x q : Str} {C f T : Addr} {st : Stmt} {oc : Value} {od an : Option Addr} {osl : Array (Option Value)} {kV doc pm cdv ct : Value} {o : Obj} {its : List Value} {n : Nat} {dvs : List V}
theorem clsAt (X : K.In h) (G : h.Ns mainGlobals mg) (a : PySem.W.nsIn K mainGlobals c = some (some (.ref C))) (pg : PySem.W.plainGet K C Str.empty = true) (hd : PySem.W.hasDictIn K C = true) (po : PySem.W.plainOver K C = true) (sa : PySem.W.findIn K (.ref C) "__setattr__" = some (some (.builtin "object.__setattr__"))) : ClsAt K mg c C :=
  ⟨PySem.W.mg_of X G a, ⟨pg, hd, po, sa⟩⟩
theorem cfAt (A : ClsAt K mg c C) (n : PySem.W.findIn K (.ref C) x = some none) : CF K mg c x := ⟨C, A.m, A.cl, n⟩
theorem methAt (A : ClsAt K mg c C) (a : PySem.W.findIn K (.ref C) mn = some (some (.ref f))) (i : PySem.W.isFn K (.ref f) = true) (l : K.lookup f = some ⟨oc, od, .func (PySem.W.fnOf mn q (defArgs st) (defBody st) (defScope st) .none kV doc pm an cdv ct), osl⟩) (cd : PySem.W.codeIn K cdv q = true) (k : PySem.W.keepIn K (.ref f) = true) : MethAt K mg c mn q st :=
  ⟨C, f, _, A.m, A.cl, ⟨a, i, k⟩, fun_mk l cd k⟩
theorem makAt (A : ClsAt K mg c C) (mk : PySem.W.makesIn K C = true) (kc : PySem.W.keepIn K (.ref C) = true) (a : PySem.W.findIn K (.ref C) "__init__" = some (some (.ref f))) (i : PySem.W.isFn K (.ref f) = true) (l : K.lookup f = some ⟨oc, od, .func (PySem.W.fnOf "__init__" q (defArgs st) (defBody st) (defScope st) .none kV doc pm an cdv ct), osl⟩) (cd : PySem.W.codeIn K cdv q = true) (k : PySem.W.keepIn K (.ref f) = true) : MakAt K mg c q st :=
  ⟨C, f, _, A.m, ⟨mk, a, i, kc⟩, fun_mk l cd k⟩
end
end Z
namespace Z
open PySem PySem.Spec L2
/-- a field as it stands -/
class AtC (c f : Str) (o : O) (x : outParam O) : Prop where
  eq : fldO c f o = some x
/-- a field, looked at -/
class AtU (c f : Str) (o : O) (x : outParam O) : Prop where
  eq : ∃ y, fldO c f o = some y ∧ unfr y = x
class InsC (c m : Str) (q : O) : Prop where
  eq : insOk c m q = true
def AtK (c f : Str) (A : O → Gs → Prop) (o : O) (g : Gs) : Prop := ∃ x, fldO c f o = some x ∧ A x g
def AuK (c f : Str) (A : O → Gs → Prop) (o : O) (g : Gs) : Prop := ∃ x, fldO c f o = some x ∧ A (unfr x) g
section
variable {A : O → Gs → Prop} {AU : Unit → Gs → Prop} {AF : Fl → Gs → Prop} {AR : List Arg → Gs → Prop} {AD : List PyData → Gs → Prop} {B : Exn → Gs → Prop} {g g' g1 : Gs} {m mo n : M O} {ms : M (List Arg)} {i jk k : Nat} {o q x : O} {os : List O} {c f mn : Str}
theorem wp_at (h : Wp (m g) (AtK c f A) B) : Wp (atM c f m g) A B := by
  unfold atM
  refine (wp_bd (m := m)).mpr (h.mono (fun o g1 q => ?_) fun _ _ z => z)
  obtain ⟨x, e, q⟩ := q
  simp only [e]
  exact q
instance s_at : Stp (Wp (atM c f m g) A B) (Wp (m g) (AtK c f A) B) := ⟨wp_at⟩
instance s_atK [h : AtC c f o x] : Stp (AtK c f A o g) (A x g) := ⟨fun k => ⟨x, h.eq, k⟩⟩
instance (priority := 2000) s_unAt : Stp (Wp (unM (atM c f m) g) A B) (Wp (m g) (AuK c f A) B) := ⟨fun h => by
  unfold unM
  refine (wp_bd (m := atM c f m)).mpr (wp_at (h.mono (fun o g1 q => ?_) fun _ _ z => z))
  exact q⟩
instance s_auK [h : AtU c f o x] : Stp (AuK c f A o g) (A x g) := ⟨fun k => by
  obtain ⟨y, e1, e2⟩ := h.eq
  exact ⟨y, e1, by rw [e2]; exact k⟩⟩
instance s_slA : Stp (Wp (slA i ms g) AR B) (Wp (ms g) (fun as g2 => AR (.sl i :: as) g2) B) := ⟨fun h => by
  unfold slA
  exact (wp_bd (m := ms)).mpr h⟩
instance s_methS {fn : Fn} {dfs : List PyData} [h : Get g i (some q)] [c' : InsC c mn q] : Stp (Wp (methS c mn i fn dfs ms g) A B) (Wp (callM fn dfs (slA i ms) g) A B) := ⟨fun k => by
  unfold methS
  rw [h.get]
  simp only [c'.eq, if_true]
  exact k⟩
def Mw (c : Str) (fn : Fn) (dfs : List PyData) (A : O → Gs → Prop) (B : Exn → Gs → Prop) (as : List Arg) (g : Gs) : Prop := optW (takeA as g) fun p => FW (fn (.ins c [] :: (p.1 ++ dfs.map O.d))) (fun r ps => ∃ s ps', r = .d .none ∧ ps = s :: ps' ∧ ps'.length = (p.1 ++ dfs.map O.d).length ∧ A s (giveA as (ps'.take p.1.length) p.2)) (fun x => B x p.2)
def MkK (A : O → Gs → Prop) (as : List Arg) (k : Nat) (g : Gs) (r : O) (ps : List O) : Prop := ∃ s ps', r = .d .none ∧ ps = s :: ps' ∧ ps'.length = k ∧ A s (giveA as ps' g)
instance s_mk {fn : Fn} {dfs : List PyData} : Stp (Wp (mkM c fn dfs ms g) A B) (Wp (ms g) (fun as g1 => Mw c fn dfs A B as g1) B) := ⟨fun h => by
  unfold mkM
  refine (wp_bd (m := ms)).mpr (h.mono (fun as g1 q => ?_) fun _ _ z => z)
  unfold Mw at q
  cases e : takeA as g1 with
  | none => rw [e] at q; exact q.elim
  | some p =>
    rw [e] at q
    simp only [optW_some] at q
    refine FRes.wp_res.mpr (q.mono (fun r ps z => ?_) fun _ z => z)
    obtain ⟨s, ps', rfl, rfl, hl, z⟩ := z
    simp only [hl, if_true]
    exact z⟩
instance s_mw {fn : Fn} {dfs : List PyData} {as : List Arg} {os' : List O} [t : TakC as g os g'] [d : DfsC os dfs os'] [l : LenC os' k] : Stp (Mw c fn dfs A B as g) (FW (fn (.ins c [] :: os')) (MkK A as k g') (fun x => B x g')) := ⟨fun h => by
  unfold Mw
  rw [t.eq, optW_some, d.eq]
  refine h.mono (fun r ps q => ?_) fun _ z => z
  obtain ⟨s, ps', e1, e2, e3, q⟩ := q
  refine ⟨s, ps', e1, e2, by rw [e3, l.eq], ?_⟩
  rw [takeA_len t.eq, giveA_take]
  exact q⟩
instance s_mkK {as : List Arg} {ps : List O} {s : O} [l : LenC ps k] [q : GivC as ps g g'] : Stp (MkK A as k g (.d .none) (s :: ps)) (A s g') := ⟨fun h => ⟨s, ps, rfl, rfl, l.eq, by rw [q.eq]; exact h⟩⟩
theorem wp_fs {fs fs' : List (Str × O)} (h : Wp (m g) (fun o g1 => ∃ fs fs', g1[i]? = some (some (.ins c fs)) ∧ (fs.map (·.1)).Nodup ∧ fs.length < 1000 ∧ putD fs f o = fs' ∧ AF .next (g1.set i (some (.ins c fs')))) B) : Wp (fsM i c f m g) AF B := by
  unfold fsM
  refine (wp_bd (m := m)).mpr (h.mono (fun o g1 q => ?_) fun _ _ z => z)
  obtain ⟨fs, fs', e1, e2, e3, e4, q⟩ := q
  simp only [e1, e2, e3, and_self, if_true, e4]
  exact q
end
end Z
namespace Z
open PySem PySem.Spec L2
end Z
namespace Z
open PySem PySem.Spec L2
end Z
namespace Z
open PySem PySem.Spec L2
end Z
namespace L2
open PySem PySem.Spec PyProof.Rows
end L2
namespace Z
open PySem PySem.Spec L2
end Z
namespace Z
open PySem PySem.Spec L2
end Z
namespace EnL
open PySem PyProof.Rows
/-- the next item where the object still holds its last tuple -/
theorem heldD {prog : Program} {w : World} {A : Around} {E : Value → Shared → Prop} {s : Shared} {e it T : Addr} {fp : List Addr} {n i : Nat} {P : Nat → Value → Prop} {DS : Nat → Heap → Prop} {old : Value} {f : Bool} {oT : Obj} {Q : Value → Shared → Prop}
    (D : Draws prog w A it fp n P DS) (he : IsEnumHeld s.heap e it i old T f) (hT : s.heap.get? T = some oT) (hTe : T ≠ e) (hTi : T ≠ it) (hst : DS i s.heap) (hlt : i < n) (hne : e ≠ it) (hef : e ∉ fp)
    (hQ : ∀ x h' tk, P i x → IsEnumHeld h' e it ((i : Int) + 1) old T true → DS (i + 1) h' →
      h'.get? s.heap.objs.size = some { cls := .type "tuple", data := .seq #[.int i tk, x] } → h'.objs.size = s.heap.objs.size + 1 →
      (∀ b o, b ≠ e → b ≠ it → s.heap.get? b = some o → h'.get? b = some o) → Q (.ref s.heap.objs.size) { s with heap := h', toks := tk + 1 }) :
    wpAny (model prog w) A (Builtin.«enumerate.__next__» ⟨[.ref e], []⟩) (fun fin s' => ∃ v, fin = .done (.ret v) ∧ Q v s') E s := by
  obtain ⟨hp, g, d, tk₀, os⟩ := s
  show wpAny _ _ (field (.ref e) 2 >>= _) _ _ _
  refine wpAny_bind (wpAny_field he rfl (x := .ref it) rfl ?_)
  refine wpAny_bind (D.item i _ _ _ hlt hst fun x h₁ tk hPx hit₁ hs₁ => ?_)
  replace hs₁ : Heap.SameBut it hp h₁ := hs₁
  have he₁ : IsEnumHeld h₁ e it i old T f := (hs₁.2 e hne).trans he
  show wpAny _ _ (field (.ref e) 3 >>= _) _ _ ⟨h₁, g, d, tk, os⟩
  refine wpAny_bind (wpAny_field he₁ rfl (x := rawInt i) rfl ?_)
  show wpAny _ _ (field (.ref e) 4 >>= _) _ _ ⟨h₁, g, d, tk, os⟩
  refine wpAny_bind (wpAny_field he₁ rfl (x := .none) rfl ?_)
  show wpAny _ _ (mkInt i >>= _) _ _ ⟨h₁, g, d, tk, os⟩
  refine wpAny_bind (wpAny_mkInt ?_)
  show wpAny _ _ (setField (.ref e) 3 (rawInt ((i : Int) + 1)) >>= _) _ _ ⟨h₁, g, d, tk + 1, os⟩
  refine wpAny_bind (wpAny_setField_rec he₁ (by simp) fun h₂ he₂ hs₂ => ?_)
  replace hs₂ : Heap.SameBut e h₁ h₂ := hs₂
  replace he₂ : IsEnumHeld h₂ e it ((i : Int) + 1) old T f := he₂
  show wpAny _ _ (setField (.ref e) 4 .none >>= _) _ _ ⟨h₂, g, d, tk + 1, os⟩
  refine wpAny_bind (wpAny_setField_rec he₂ (by simp) fun h₃ he₃ hs₃ => ?_)
  replace hs₃ : Heap.SameBut e h₂ h₃ := hs₃
  replace he₃ : IsEnumHeld h₃ e it ((i : Int) + 1) old T f := he₃
  show wpAny _ _ (newTuple [.int i tk, x] >>= _) _ _ ⟨h₃, g, d, tk + 1, os⟩
  refine wpAny_bind (wpAny_newTuple ?_)
  have he₄ : IsEnumHeld (h₃.push { cls := .type "tuple", data := .seq #[.int i tk, x] }) e it ((i : Int) + 1) old T f := Heap.get?_push_of_some _ he₃
  generalize hh₄ : h₃.push { cls := .type "tuple", data := .seq #[.int i tk, x] } = h₄ at he₄
  have hsz : h₃.objs.size = hp.objs.size := by rw [hs₃.1, hs₂.1, hs₁.1]
  have hel : e < hp.objs.size := Heap.lt_size he
  have ht₄ : h₄.get? hp.objs.size = some { cls := .type "tuple", data := .seq #[.int i tk, x] } := by rw [← hh₄, ← hsz]; exact Heap.get?_push_size _ rfl
  have hz₄ : h₄.objs.size = hp.objs.size + 1 := by rw [← hh₄, Heap.size_push, hsz]
  have hk₄ : ∀ b o, b ≠ e → b ≠ it → hp.get? b = some o → h₄.get? b = some o := fun b o hbe hbi hb => by
    rw [← hh₄]; exact Heap.get?_push_of_some _ (hs₃.extBut b o hbe (hs₂.extBut b o hbe (hs₁.extBut b o hbi hb)))
  have hit₄ : DS (i + 1) h₄ := D.frame _ _ _ hit₁ fun b hb o y => by
    have hbe : b ≠ e := fun q => hef (q ▸ hb)
    rw [← hh₄]; exact Heap.get?_push_of_some _ (hs₃.extBut b o hbe (hs₂.extBut b o hbe y))
  show wpAny _ _ (Builtin.SmallTypes.ownedTupleIsFree (.ref e) >>= _) _ _ ⟨h₄, g, d, tk + 1, os⟩
  rw [hsz]
  clear hh₄ he₃ hs₃ he₂ hs₂ he₁ hs₁ hit₁ hsz h₃ h₂ h₁
  refine wpAny_bind (wpAny_tupleHeld_enum (s := ⟨h₄, g, d, tk + 1, os⟩) he₄ (hk₄ T oT hTe hTi hT) fun h₅ he₅ hs₅ => ?_)
  replace hs₅ : Heap.SameBut e h₄ h₅ := hs₅
  simp only [Bool.false_eq_true, if_false]
  refine wpAny_pure ⟨_, rfl, hQ x h₅ tk hPx he₅ (D.frame _ _ _ hit₄ fun b hb o y => hs₅.extBut b o (fun q => hef (q ▸ hb)) y) (hs₅.extBut _ _ (Nat.ne_of_gt hel) ht₄) ?_ fun b o hbe hbi hb => hs₅.extBut b o hbe (hk₄ b o hbe hbi hb)⟩
  show h₅.objs.size = hp.objs.size + 1
  rw [hs₅.1, hz₄]
theorem heldItem {prog : Program} {w : World} {A : Around} {E : Value → Shared → Prop} {s : Shared} {e it T : Addr} {fp : List Addr} {n i : Nat} {P : Nat → Value → Prop} {DS : Nat → Heap → Prop} {old : Value} {f : Bool} {oT : Obj} {Q : Option Value → Shared → Prop}
    (D : Draws prog w A.in1 it fp n P DS) (he : IsEnumHeld s.heap e it i old T f) (hT : s.heap.get? T = some oT) (hTe : T ≠ e) (hTi : T ≠ it) (hst : DS i s.heap) (hlt : i < n) (hne : e ≠ it) (hef : e ∉ fp)
    (hQ : ∀ x h' tk, P i x → IsEnumHeld h' e it ((i : Int) + 1) old T true → DS (i + 1) h' →
      h'.get? s.heap.objs.size = some { cls := .type "tuple", data := .seq #[.int i tk, x] } → h'.objs.size = s.heap.objs.size + 1 →
      (∀ b o, b ≠ e → b ≠ it → s.heap.get? b = some o → h'.get? b = some o) → Q (some (.ref s.heap.objs.size)) { s with heap := h', toks := tk + 1 }) :
    wpAny (model prog w) A (pyNext (.ref e)) Q E s := by
  have hTy : s.TypeIs (.ref e) "enumerate" := ⟨_, he, rfl⟩
  unfold pyNext
  exact wpAny_bind (wpAny_attempt (wpAny_callSpecial?_slot (name := Str.ofString "__next__") hTy F.slot_enumerate_next
    (wpAny_call_entry F.slot_enumerate_next hTy F.entry_enumerate_next
      (heldD D he hT hTe hTi hst hlt hne hef fun x h' tk a1 a2 a3 a4 a5 a6 => wpAny_pure (hQ x h' tk a1 a2 a3 a4 a5 a6)) (F.args_enumerate_next_1 _))))
theorem heldEnd {prog : Program} {w : World} {A : Around} {E : Value → Shared → Prop} {s : Shared} {e it T : Addr} {fp : List Addr} {n : Nat} {i : Int} {P : Nat → Value → Prop} {DS : Nat → Heap → Prop} {old : Value} {f : Bool} {Q : Option Value → Shared → Prop}
    (D : Draws prog w A.in1 it fp n P DS) (he : IsEnumHeld s.heap e it i old T f) (hst : DS n s.heap)
    (hQ : ∀ h', Heap.ExtBut it s.heap h' → Q none { s with heap := h' }) : wpAny (model prog w) A (pyNext (.ref e)) Q E s := by
  have hTy : s.TypeIs (.ref e) "enumerate" := ⟨_, he, rfl⟩
  unfold pyNext
  refine wpAny_bind (wpAny_attempt (wpAny_callSpecial?_slot (name := Str.ofString "__next__") hTy F.slot_enumerate_next
    (wpAny_call_entry F.slot_enumerate_next hTy F.entry_enumerate_next ?_ (F.args_enumerate_next_1 _))))
  show wpAny _ _ (field (.ref e) 2 >>= _) _ _ _
  refine wpAny_bind (wpAny_field he rfl (x := .ref it) rfl ?_)
  refine wpAny_bind (D.done _ _ _ hst fun h' x he' hx' => ?_)
  obtain ⟨o, ho, hc⟩ := hx'
  refine wpAny_bind (wpAny_isInstance (T := "StopIteration") (b := true) ⟨o, ho, hc⟩ isSubtype_stop ?_)
  exact wpAny_pure (hQ _ he')
/-- an enumerate object that has told i items -/
def St (DS : Nat → Heap → Prop) (S : Addr) (h : Heap) (e it : Addr) (i : Nat) : Prop := DS i h ∧ ((∃ old, IsEnum h e it i old) ∨ ∃ old T f oT, IsEnumHeld h e it i old T f ∧ h.get? T = some oT ∧ T ≠ e ∧ T ≠ it ∧ T ≠ S)
section
variable {prog : Program} {w : World} {A : Around} {E : Value → Shared → Prop} {s : Shared} {e it : Addr} {fp : List Addr} {DS : Nat → Heap → Prop} {items : Array Value} {i : Nat} {Q : Option Value → Shared → Prop}
theorem next {S : Addr} (D : Draws prog w A.in1 it fp items.size (fun i x => items[i]? = some x) DS) (hS : S < s.heap.objs.size) (st : St DS S s.heap e it i) (hi : i < items.size) (hei : e ≠ it) (hef : e ∉ fp)
    (hQ : ∀ h' t tk, St DS S h' e it (i + 1) → h'.get? s.heap.objs.size = some { cls := .type "tuple", data := .seq #[.int i t, items[i]] } → h'.objs.size = s.heap.objs.size + 1 →
      (∀ b o, b ≠ e → b ≠ it → s.heap.get? b = some o → h'.get? b = some o) → Q (some (.ref s.heap.objs.size)) { s with heap := h', toks := tk }) : wpAny (model prog w) A (pyNext (.ref e)) Q E s := by
  obtain ⟨hd, he⟩ := st
  have ec : ((i + 1 : Nat) : Int) = (i : Int) + 1 := by omega
  have nit : s.heap.objs.size ≠ it := let ⟨_, x⟩ := D.live _ _ hd; Nat.ne_of_gt (Heap.lt_size x)
  have ix : ∀ {x}, items[i]? = some x → items[i] = x := fun {x} q => by rw [Array.getElem?_eq_getElem hi] at q; exact Option.some.inj q
  rcases he with ⟨old, he⟩ | ⟨old, T, f, oT, he, hT, r1, r2, r3⟩
  · refine wpAny_pyNext_enum_itemD D he hd hi hei hef fun x h' tk hP ho hd' hT hsz hk => ?_
    rw [← ix hP] at hT
    exact hQ h' _ _ ⟨hd', .inr ⟨_, s.heap.objs.size, false, _, (by rw [ec]; exact ho), hT, Nat.ne_of_gt (Heap.lt_size he), nit, Nat.ne_of_gt hS⟩⟩ hT hsz hk
  · refine heldItem D he hT r1 r2 hd hi hei hef fun x h' tk hP ho hd' hT' hsz hk => ?_
    rw [← ix hP] at hT'
    exact hQ h' _ _ ⟨hd', .inr ⟨old, T, true, oT, (by rw [ec]; exact ho), hk _ _ r1 r2 hT, r1, r2, r3⟩⟩ hT' hsz hk
theorem fin {S : Addr} (D : Draws prog w A.in1 it fp items.size (fun i x => items[i]? = some x) DS) (st : St DS S s.heap e it items.size) (hQ : ∀ h', Heap.ExtBut it s.heap h' → Q none { s with heap := h' }) : wpAny (model prog w) A (pyNext (.ref e)) Q E s := by
  obtain ⟨hd, he⟩ := st
  rcases he with ⟨old, he⟩ | ⟨old, T, f, oT, he, hT, r1, r2, r3⟩
  · exact wpAny_pyNext_enum_endD D he hd hQ
  · exact heldEnd D he hd hQ
end
end EnL
namespace Z
open PySem PySem.Spec L2
end Z
namespace Z
open PySem PySem.Spec L2
end Z
namespace Z
open PySem PySem.Spec PyProof.Rows L2
section
variable {X : Cx} {o e : Expr} {es : List Expr} {to te : TE} {ta : TA} {f : Str} {p p1 p2 pos : Pos}
/-- B.__init__(self, ..), B a class of the text over ValueError without its own -/
theorem pe_beinit {x : Str} {CB : Addr} {mc : Value} {pl : Sem Bool} (hg : Gl X x) (hm : X.mg x = some (.ref CB)) (rd : ClX.CRead X.K CB mc) (vV : PySem.W.findCls X.K (.ref CB) mc "__init__" = some (.val (.builtin "ValueError.__init__"))) (ha : PA X (e :: es) ta)
    (hdb : (x == ("__debug__" : Str)) = false := by decide)
    (hc : eval (.Call (.Attribute (.Name x p1) "__init__" p2) (e :: es) [] pos) X.env = (do
      let ov ← eval (.Name x p1) X.env
      standAt p2.atName
      let (f, first) ← holding [ov] (getMethod ov "__init__" pl)
      callWith pos f first (backTo pos (starEach (e :: es) X.env)) (backToKw pos (keywordEach [] X.env))) := by rfl)
    (he : starEach (e :: es) X.env = (false, eval e X.env) :: starEach es X.env := by rfl) (hpl : (backTo pos (starEach es X.env)).any (·.1) = false := by rfl) :
    PE X (.Call (.Attribute (.Name x p1) "__init__" p2) (e :: es) [] pos) (tVeI X.K ta) := by
  refine ⟨fun pins s σ H Q I h => ?_⟩
  refine PySem.W.methodCall_KW (ld_glob I hg hm ?_ hdb) hc
  refine PySem.W.method_cls I.kIn rd.ga (PySem.W.cls_value I.kIn rd.rd vV (by decide +kernel) ?_)
  show wpAny _ _ (callWith pos (Value.builtin "ValueError.__init__") [] (backTo pos (starEach (e :: es) X.env)) []) _ _ _
  refine PyProof.Rows.callWith_method1 (thn (ha.run pos pins _ σ H _ (I.tok _) h) fun us s1 ⟨vs, H1, I1, r1, a, C, ws, ev, hl, T, ea, q⟩ => ?_) he hpl
  subst ev
  cases r1 with
  | @cons _ u0 _ ur ra rw' =>
    obtain rfl : u0 = Value.ref a := ra
    have hlen : ur.length ≤ sizeLine := by
      rw [← Paired.length rw', sizeLine_eq]
      omega
    exact oinit_ok T I1 ea hlen fun s' J => ⟨.non, H1, J, rfl, q⟩
end
/-- what an __init__ of such a class does: one field, of its one argument -/
def spI (K : PySem.W.Frag) (fn : Str) : Sp := fun vs H Q E => ∃ (a C : Addr) (v : V), vs = [.ref a, v] ∧ OexC K C ∧ PySem.W.findIn K (.ref C) fn = some none ∧ H a = some (exo a C none) ∧
  ∀ dx, H dx = none → dx ≠ a → Q .non (upd (upd H dx (exd dx [(fn, v)])) a (exo a C (some dx)))
/-- an exception class of the text that is made with one thing, kept in a field -/
structure XMak (P : Program) (w : World) (K : PySem.W.Frag) (mg : Str → Option Value) (base : Heap) (c fn : Str) : Prop where
  ex : ∃ (C fI : Addr) (fd : FuncData) (ps : List Str), mg c = some (.ref C) ∧ OexC K C ∧ PySem.W.findIn K (.ref C) "__init__" = some (some (.ref fI)) ∧ PySem.W.typeIn K (.ref fI) = some (.type "function") ∧
    PySem.W.findIn K (.ref C) fn = some none ∧ FnOk P w K mg base (L2.CX P w) 1 fI fd ps (spI K fn) ∧ L2.Binds K fd ps []
/-- its __init__ -/
theorem initRule {P : Program} {w : World} {K : PySem.W.Frag} {mg : Str → Option Value} {base : Heap} {qual : Str} {st : Stmt} {f : Addr} {fd : FuncData} {N ps : List Str} {fn : Str} (F : Fun K "__init__" qual st f fd) (S : FnScope N ps (defScope st)) (hps : ps.length = 2)
    (hb : ∀ (cdv : Value) (A : Around) (outer : List Env) (s : Shared) (H : Hp) (E : XK) (a C : Addr) (v : V), OexC K C → PySem.W.findIn K (.ref C) fn = some none →
      ∃ t, PSs (cxOf (L2.CX P w) P w K mg base N qual (defScope st) f cdv A outer s H E) (defBody st) t ∧ ∀ (D : Ends) (σ : L2.St), σ[0]? = some (some (.ref a)) → σ[1]? = some (some v) → H a = some (exo a C none) →
        (∀ dx, H dx = none → dx ≠ a → D.nx σ (upd (upd H dx (exd dx [(fn, v)])) a (exo a C (some dx)))) → t D σ H) :
    FnOk P w K mg base (L2.CX P w) 1 f fd ps (spI K fn) := by
  refine F.okX (k := 0) S (fun vs H Q E h => ?_) (fun cdv A outer s H vs Q E hr h => ?_)
  · obtain ⟨a, C, v, e, _⟩ := h
    rw [e, hps]; rfl
  · obtain ⟨a, C, v, e, T, hno, ha, q⟩ := h
    subst e
    obtain ⟨t, h1, h2⟩ := hb cdv A outer s H E a C v T hno
    exact ⟨t, h1, h2 _ _ rfl rfl ha fun dx n ne => q dx n ne⟩
end Z
namespace Z
open PySem PySem.Spec PyProof.Rows L2
def raiM (c f : Str) (m : M O) : M Fl := M.bd m fun o g => match o with
  | .d x => if flatF x = true then .ex ⟨c, [(f, x)]⟩ g else .bad
  | _ => .bad
theorem wpRai {o : O} {c f : Str} {g : Gs} {A : Fl → Gs → Prop} {B : Exn → Gs → Prop} (h : Wp ((fun o g => match o with
  | O.d x => if flatF x = true then .ex ⟨c, [(f, x)]⟩ g else .bad
  | _ => .bad : O → M Fl) o g) A B) : ∃ x, o = .d x ∧ flatF x = true ∧ B ⟨c, [(f, x)]⟩ g := by
  cases o with
  | d x =>
    dsimp only at h
    split at h
    · rename_i q; exact ⟨x, rfl, q, h⟩
    · exact h.elim
  | _ => exact h.elim
theorem flat_v {K : PySem.W.Frag} {H : Hp} {v : V} {x : PyData} (h : Dp K H v x) (f : flatF x = true) : v = vF x := by
  cases h with
  | non => rfl
  | bl b => rfl
  | int i => rfl
  | str s => rfl
  | lst _ _ => cases f
  | tup _ _ _ => cases f
  | ftup _ _ _ _ => cases f
  | ktup _ _ _ _ _ => cases f
theorem Rel.flat {K : PySem.W.Frag} {mg : Str → Option Value} {H : Hp} {Ex : List (Addr × HO)} {rs ws : Roots} {v : V} {x : PyData} (r : Rel K mg H Ex ((v, .d x) :: rs) ws) (f : flatF x = true) : v = vF x := by
  obtain ⟨Hf, as, s, he, ho, nd, hn, hw⟩ := r.ex
  cases ho with
  | cons h t => cases h with | d h => exact flat_v h f
theorem Rel.notEx {K : PySem.W.Frag} {mg : Str → Option Value} {H : Hp} {Ex : List (Addr × HO)} {rs ws : Roots} {d : Addr} (r : Rel K mg H Ex rs ws) (h : H d = none) : d ∉ Ex.map (·.1) := by
  obtain ⟨Hf, as, s, he, ho, nd, hn, hw⟩ := r.ex
  intro m
  obtain ⟨e, me, rfl⟩ := List.mem_map.mp m
  rw [he e me] at h; cases h
theorem upd_del_exo {H : Hp} {a C d : Addr} {fs : List (Str × V)} (na : H a = none) (nd : d ≠ a) :
    upd (L2.del (upd (upd (upd H a (exo a C none)) d (exd d fs)) a (exo a C (some d))) a) d (.xd fs) = upd H d (.xd fs) := by
  funext b
  by_cases hd : b = d
  · rw [hd, upd_same, upd_same]
  · rw [upd_ne hd, upd_ne hd]
    by_cases ha : b = a
    · rw [ha, L2.del_same, na]
    · rw [L2.del_ne ha, upd_ne ha, upd_ne hd, upd_ne ha]
theorem sameUpd {H : Hp} {a : Addr} {o : HO} (h : H a = none) : Same H (upd H a o) := fun b u e => by
  rw [upd_ne fun z => by rw [z, h] at e; cases e]
  exact e
section
variable {X : Cx} {W : WX} {pu : Bool} {e : Expr} {m : M O} {pos pos' p : Pos} {k np : Nat}
theorem es_raise1 {c f x : Str} (cc : Cc X W k) (xm : XMak X.prog X.w X.K X.mg X.base c f) (hj : 2 ≤ k) (h : Ev X W pu e m) (hx : x = c := by rfl) (hg : Gl X x := by rfl)
    (hdb : (x == ("__debug__" : Str)) = false := by decide) (he : starEach [e] X.env = (false, eval e X.env) :: starEach [] X.env := by rfl) (hpl : (backTo pos (starEach [] X.env)).any (·.1) = false := by rfl) :
    EvS X W np (.Raise (some (.Call (.Name x p) [e] [] pos)) none pos') (raiM c f m) := by
  subst hx
  obtain ⟨C, fI, fd, ps, hm, T, iC, tI, hno, F, hb⟩ := xm.ex
  obtain ⟨t, h1, h2⟩ := h.ex
  refine ⟨_, ps_raise cc.calm cc.tk (pmk_oex T iC tI F (cc.hr.mono hj).r hb .nil (fun _ _ _ _ _ _ _ z => ?_) hg hm (pa_cons h1 pa_nil he) hdb he hpl), fun σ H D g T0 Ex a w => ?_⟩
  · obtain ⟨_, _, _, _, _, _, _, _, _, _, _, _, z⟩ := z
    exact z.elim
  refine h2 σ H _ g T0 Ex [] a (w.bd.imp (fun o g' kk v H1 s a' => ?_) fun x g' kk H' cls d a' e => kk σ H' cls d .refl a' e)
  obtain ⟨x, rfl, fx, kk⟩ := wpRai kk
  have hv := a'.rel.perm List.perm_middle |>.flat fx
  subst hv
  refine ⟨by show 1 ≤ 1000; decide, fun b nb => ⟨b, C, vF x, rfl, T, hno, by rw [upd_same], fun dx ndx ne => ?_⟩⟩
  have n1 : H1 dx = none := by rw [← ndx, upd_ne ne]
  refine ⟨rfl, dx, [(f, vF x)], by rw [upd_same], by rw [upd_ne ne, upd_same], n1, ?_⟩
  rw [upd_del_exo nb ne]
  refine kk σ _ _ _ .refl ((a'.drop.same (sameUpd n1)).noV) ⟨C, rfl, hm, .inr ⟨dx, rfl, by rw [upd_same]; rfl, a'.rel.notEx n1, fun p m => ?_⟩⟩
  rw [List.mem_singleton.mp m]
  exact fx
end
end Z
namespace Z
open PySem PySem.Spec PyProof.Rows L2
def Res.excR {α : Type} : Res α → (Exn → Gs → Res α) → Res α
  | .ok a g, _ => .ok a g
  | .ex x g, h => h x g
  | .bad, _ => .bad
  | .all f, h => .all fun v => (f v).excR h
def Res.exc {α : Type} (r : Res α) (h : Exn → Gs → Res α) : Res α := match r with
  | .ok a g => .ok a g
  | .ex x g => h x g
  | .bad => .bad
  | .all f => .all fun v => (f v).excR h
theorem Res.excR_eq {α : Type} {h : Exn → Gs → Res α} : ∀ {r : Res α}, r.excR h = r.exc h
  | .ok _ _ => rfl
  | .ex _ _ => rfl
  | .bad => rfl
  | .all _ => rfl
theorem Res.wp_exc {α : Type} {h : Exn → Gs → Res α} {A : α → Gs → Prop} {B : Exn → Gs → Prop} : ∀ {r : Res α}, Wp (r.exc h) A B ↔ Wp r A (fun x g => Wp (h x g) A B)
  | .ok a e => Iff.rfl
  | .ex x e => Iff.rfl
  | .bad => Iff.rfl
  | .all g => wp_all.trans ((forall_congr' fun v => by rw [Res.excR_eq]; exact Res.wp_exc (r := g v)).trans wp_all.symm)
/-- what an except clause does with what it takes -/
def hanM (hs : List Str) (i : Nat) (ms : M Fl) (x : Exn) (g : Gs) : Res Fl :=
  if x.c ∈ hs then ((ms (g.set i (some (.exc x.c x.fs)))).noX).bd fun fl g2 => .ok fl (g2.set i none) else .bad
def tryM (hs : List Str) (i : Nat) (mb ms : M Fl) : M Fl := fun g => (mb g).exc (hanM hs i ms)
/-- the context of an except suite, where the exception is tracked -/
abbrev suite0 (X : Cx) (a : Addr) (pn : List (Addr × Obj)) : Cx := { X with A := X.A.mark (some (.ref a)), calm := false, pn := pn, xe := fun _ _ => False }
theorem suite0_ok {X : Cx} (ok : X.Ok) (a : Addr) (pn : List (Addr × Obj)) : (suite0 X a pn).Ok :=
  ⟨ok.mod, ok.kind, ok.glob, ok.blt, ok.above, ok.inj, ok.has, ok.cab, (fun z => absurd (show false = true from z) Bool.false_ne_true), ok.frames, ok.stk, ok.exf, ok.bs, ok.bsz, ok.noex, ok.exfs, ok.funs, ok.frf⟩
section
variable {X : Cx} {pins : List (Addr × Obj)} {σ : L2.St} {H : Hp} {s : Shared}
theorem toSuite0 (I : Inv X pins σ H s) {a : Addr} : Inv (suite0 X a (X.pn ++ pins)) [] σ H s :=
  ⟨suite0_ok I.ok _ _, I.os, I.bare, I.base, I.loc, I.cell, I.free, I.freeC, fun p hp => I.pin p (by rw [List.append_nil] at hp; exact hp), I.hok, I.len⟩
theorem ofSuite0 {a : Addr} {pn' : List (Addr × Obj)} (I : Inv (suite0 X a (X.pn ++ pins)) pn' σ H s) (ok : X.Ok) : Inv X pins σ H s :=
  ⟨ok, I.os, I.bare, I.base, I.loc, I.cell, I.free, I.freeC, fun p hp => I.pin p (List.mem_append_left _ hp), I.hok, I.len⟩
theorem exH_ok {P : Program} {w : World} {H : Hp} {h : Heap} {a : Addr} {cls : Value} {d : Option Addr} {oe : Obj} {vs : Array Value} (e : h.get? a = some oe) (z : Zc cls d oe) (hd : oe.data = .fields vs) : ObjOk P w H h a (exH a cls d) :=
  ⟨⟨oe, vs, e, z, hd⟩, ⟨oe, e⟩, fun _ _ ⟨o, v, q, r⟩ k => ⟨o, v, k o q, r⟩⟩
/-- the exception is tracked from now on -/
theorem landed_exH {sI s' : Shared} {B : Heap} {a : Addr} {cls : Value} {d : Option Addr} {oe : Obj} {vs : Array Value} (J : Inv X pins σ H sI) (nb : ∀ b o, sI.heap.get? b = some o → b ∉ frs X.stack → B.get? b = some o) (hB : B.get? a = none) (nfr : a ∉ frs X.stack) (st : B.StaysIn s'.heap) (up : sI.heap.UpToSlots s'.heap) (os : s'.os = sI.os) (ag : AllBare s'.gens)
    (na : H a = none) (he : s'.heap.get? a = some oe) (hz : Zc cls d oe) (hd : oe.data = .fields vs) : Inv X pins σ (upd H a (exH a cls d)) s' := by
  have sa : sI.heap.get? a = none := by
    cases q : sI.heap.get? a with
    | none => rfl
    | some o => rw [nb a o q nfr] at hB; cases hB
  obtain ⟨G, g1, g2⟩ := restrict s'.heap fun b => decide (b ≠ a)
  have gk : ∀ b, b ≠ a → G.get? b = s'.heap.get? b := fun b hb => g1 b (decide_eq_true hb)
  have ga : G.get? a = none := g2 a (decide_eq_false fun z => z rfl)
  obtain ⟨h0, gs, dr, tk, os0⟩ := s'
  have J2 : Inv X pins σ H ⟨G, gs, dr, tk, os0⟩ := J.landed (B := B) (s' := ⟨G, gs, dr, tk, os0⟩) nb (fun b o e => by
    have hb : b ≠ a := fun z => by rw [z, hB] at e; cases e
    exact (gk b hb).trans (st b o e)) (fun b o e hf => by
    have hb : b ≠ a := fun z => by rw [z, sa] at e; cases e
    obtain ⟨sl, q⟩ := up b o e hf
    exact ⟨sl, (gk b hb).trans q⟩) os ag
  exact J2.laidN (t' := tk) (fun b u e => by
    have hb : b ≠ a := fun z => by
      have e' : G.get? b = some u := e
      rw [z, ga] at e'; cases e'
    exact (gk b hb).symm.trans e) ga na (exH_ok he hz hd)
end
mutual
theorem owKind {K : PySem.W.Frag} {mg : Str → Option Value} {F : Fz} {fs : List (Str × V)} : ∀ {H : Hp} {v : V} {o : O} {as : List Addr}, Ow K mg F H v o as → ∀ a ∈ as, H a ≠ some (.xd fs)
  | _, _, _, _, .d _ => fun a h => nomatch h
  | _, _, _, _, .gL _ _ => fun a h => nomatch h
  | _, _, _, _, .gT _ _ => fun a h => nomatch h
  | _, _, _, _, .gD _ _ _ => fun a h => nomatch h
  | _, _, _, _, .gK _ _ _ => fun a h => nomatch h
  | _, _, _, _, .gN _ _ _ _ => fun a h => nomatch h
  | _, _, _, _, .pin _ => fun a h => nomatch h
  | _, _, _, _, .fr _ _ => fun a h => nomatch h
  | _, _, _, _, .mem _ => fun a h => nomatch h
  | _, _, _, _, .hole => fun a h => nomatch h
  | _, _, _, _, .jk => fun a h => nomatch h
  | _, _, _, _, .exc _ _ _ => fun a h => nomatch h
  | _, _, _, _, .lst h t => fun a m z => by
    rcases List.mem_cons.mp m with e | m
    · subst e; rw [h] at z; cases z
    · exact owLKind t a m z
  | _, _, _, _, .tup h t => fun a m z => by
    rcases List.mem_cons.mp m with e | m
    · subst e; rw [h] at z; cases z
    · exact owLKind t a m z
  | _, _, _, _, .dK h _ t => fun a m z => by
    rcases List.mem_cons.mp m with e | m
    · subst e; rw [h] at z; cases z
    · exact owLKind t a m z
  | _, _, _, _, .dT h _ t => fun a m z => by
    rcases List.mem_cons.mp m with e | m
    · subst e; rw [h] at z; cases z
    · exact owLKind t a m z
  | _, _, _, _, .ins h _ _ t => fun a m z => by
    rcases List.mem_cons.mp m with e | m
    · subst e; rw [h] at z; cases z
    · exact owLKind t a m z
  | _, _, _, _, .dN h _ _ t => fun a m z => by
    rcases List.mem_cons.mp m with e | m
    · subst e; rw [h] at z; cases z
    · exact owLKind t a m z
theorem owLKind {K : PySem.W.Frag} {mg : Str → Option Value} {F : Fz} {fs : List (Str × V)} : ∀ {H : Hp} {v : List V} {o : List O} {as : List Addr}, OwL K mg F H v o as → ∀ a ∈ as, H a ≠ some (.xd fs)
  | _, _, _, _, .nil => fun a h => nomatch h
  | _, _, _, _, .cons h t => fun a m => by
    rcases List.mem_append.mp m with m | m
    · exact owKind h a m
    · exact owLKind t a m
end
theorem flat_dp {K : PySem.W.Frag} {H : Hp} : ∀ {fs : List (Str × PyData)}, (∀ p ∈ fs, flatF p.2 = true) → DpAll K H (fs.map fun p => vF p.2) (fs.map (·.2))
  | [], _ => .nil
  | p :: r, h => by
    refine .cons ?_ (flat_dp fun q m => h q (List.mem_cons_of_mem _ m))
    have hp := h p List.mem_cons_self
    obtain ⟨n, x⟩ := p
    cases x with
    | none => exact .non
    | bool b => exact .bl b
    | int i => exact .int i
    | str s => exact .str s
    | _ => cases hp
/-- a caught exception as own data -/
theorem Rel.caught {K : PySem.W.Frag} {mg : Str → Option Value} {H : Hp} {Ex : List (Addr × HO)} {rs : Roots} {a C : Addr} {d : Option Addr} {x : Exn} (r : Rel K mg H Ex rs []) (na : H a = none) (hx : ExAt mg Ex (.ref C) d H x) :
    Rel K mg (upd H a (exH a (.ref C) d)) Ex ((.ref a, .exc x.c x.fs) :: rs) [] := by
  obtain ⟨C', eC, hm, hf⟩ := hx
  cases eC
  obtain ⟨Hf, as, s, he, ho, nd, hn, hw⟩ := r.ex
  have ts := owLThere ho
  have ne : ∀ {b : Addr} {u : HO}, H b = some u → b ≠ a := fun {b u} e z => by rw [z, na] at e; cases e
  have s' : Hf.on K (upd H a (exH a (.ref C) d)) := s.trans (sameUpd na)
  have core : ∀ L : List Addr, a ∈ L → (∀ b ∈ L, Hf.m b = none) → (∀ b ∈ Ex.map (·.1) ++ as, b ∉ L) → XdF K (frz Hf (upd H a (exH a (.ref C) d)) L).h d x.fs → Rel K mg (upd H a (exH a (.ref C) d)) Ex ((.ref a, .exc x.c x.fs) :: rs) [] := fun L mL hL nL hX => by
    have there : ∀ b ∈ Ex.map (·.1) ++ as, ∃ u, H b = some u := fun b m => by
      rcases List.mem_append.mp m with m | m
      · obtain ⟨q, mq, rfl⟩ := List.mem_map.mp m
        exact ⟨_, he q mq⟩
      · exact ts b m
    refine ⟨frz Hf _ L, as, frzIn s' L hL, fun e m => (upd_ne (ne (he e m))).trans (he e m), ?_, nd, fun b m => ⟨frzNot (nL b m) (hn b m).1, fun xs e => (hn b m).2 xs ?_⟩, fun p m => nomatch m⟩
    · refine .cons (as := []) (.exc (C := C) (d := d) ?_ hm hX) (owLMono (frzSame s'.same L) ho fun b m => ?_)
      · rw [frzAt mL, upd_same]
      · obtain ⟨u, hu⟩ := ts b m
        exact upd_ne (ne hu)
    · obtain ⟨u, hu⟩ := there b m
      rw [upd_ne (ne hu)] at e
      exact e
  have nma : Hf.m a = none := (s.free na).2
  have naL : ∀ b ∈ Ex.map (·.1) ++ as, b ≠ a := fun b m => by
    rcases List.mem_append.mp m with m | m
    · obtain ⟨q, mq, rfl⟩ := List.mem_map.mp m
      exact ne (he q mq)
    · obtain ⟨u, hu⟩ := ts b m
      exact ne hu
  rcases hf with hf | ⟨dd, rfl, hdd, nEx, fl⟩
  · exact core [a] List.mem_cons_self (fun b m => by rw [List.mem_singleton.mp m]; exact nma) (fun b m z => naL b m (List.mem_singleton.mp z)) (.inl hf)
  · refine core [a, dd] List.mem_cons_self (fun b m => ?_) (fun b m z => ?_) (.inr ⟨dd, _, rfl, (frzAt (by simp)).trans ((upd_ne (ne hdd)).trans hdd), ?_, ?_⟩)
    · rcases List.mem_cons.mp m with e | m
      · rw [e]; exact nma
      · rw [List.mem_singleton.mp m]
        cases q : Hf.m dd with
        | none => rfl
        | some g =>
          obtain ⟨_, kvs, h2, _⟩ := s.mem dd g q
          rw [hdd] at h2; cases h2
    · rcases List.mem_cons.mp z with e | z
      · exact naL b m e
      · have e := List.mem_singleton.mp z
        subst e
        rcases List.mem_append.mp m with m | m
        · exact nEx m
        · exact owLKind ho b m hdd
    · rw [List.map_map]; rfl
    · rw [List.map_map]; exact flat_dp fl
end Z
namespace Z
open PySem PySem.Spec PyProof.Rows L2
section
variable {X : Cx} {W : WX} {x n : Str} {cl : Value} {i np k : Nat} {body suite : List Stmt} {b₀ : Stmt} {npos pos pos' : Pos} {mb ms : M Fl} {hs : List Str}
theorem At.gone {H : Hp} {Ex : List (Addr × HO)} {σ : L2.St} {g : Gs} {T ws : Roots} (a : At X H Ex σ g T ws) (i : Nat) : At X H Ex (σ.set i none) (g.set i none) T ws := by
  refine ⟨⟨by rw [List.length_set, List.length_set]; exact a.fit.len, fun j o h => ?_⟩, ?_⟩
  · by_cases e : i = j
    · subst e
      rw [List.getElem?_set] at h
      simp at h
    · rw [List.getElem?_set_ne e] at h ⊢
      exact a.fit.at_ j o h
  · rw [rootsNone]
    exact a.rel.clr a.fit i
theorem es_tryAs (i : Nat) (cc : Cc X W k) (hnp : np ≤ i) (hc : Names X x cl) (hm : ∀ c ∈ hs, ∀ C, X.mg c = some (.ref C) → PySem.W.exmOne X.K (.ref C) cl = some true)
    (hb : ∀ (W' : WX) (pn : List (Addr × Obj)) (xe : Value → Shared → Prop), Cc (X.tr pn xe) W' k → EvSs (X.tr pn xe) W' np body mb)
    (hsu : ∀ (a : Addr) (pn : List (Addr × Obj)), (suite0 X a pn).N.Nodup → EvSs (suite0 X a pn) (fun _ _ _ _ => False) np (b₀ :: suite) ms)
    (hst : X.stack = X.env :: X.outer := by rfl) (hf : X.env.frame = some X.env.locals := by rfl) (hi : X.N[i]? = some n := by rfl) (hln : X.env.kindOf n = some .local := by rfl) :
    EvS X W np (.Try body [.ExceptHandler (some (.Name x npos)) (some n) (b₀ :: suite) pos'] [] [] pos) (tryM hs i mb ms) := by
  refine ⟨fun D σ H => ∀ (pins : List (Addr × Obj)) (s : Shared), Inv X pins σ H s → wpAny (model X.prog X.w) X.A (exec (.Try body [.ExceptHandler (some (.Name x npos)) (some n) (b₀ :: suite) pos'] [] [] pos) X.env) (SP X pins D) X.xe s,
    ⟨fun pins s σ H D I h => h pins s I⟩, fun σ H D g T Ex a w pins s I => ?_⟩
  have ok := I.ok
  have hN := cc.nd
  have hfr : X.A.frames = some (X.env :: X.outer) := by rw [ok.frames, hst]
  have hloc : Loc X.env.scope n := .inl hln
  let W' : WX := fun cls d σ' H' => ∃ (xx : Exn) (g' : Gs), Pin np σ σ' ∧ At X H' Ex σ' g' T [] ∧ ExAt X.mg Ex cls d H' xx ∧ Wp (hanM hs i ms xx g') (SPost X np σ T Ex D) (XPost X W np σ T Ex)
  have wb : Wp (mb g) (SPost X np σ T Ex D) (fun xx g' => Wp (hanM hs i ms xx g') (SPost X np σ T Ex D) (XPost X W np σ T Ex)) := Res.wp_exc.mp w
  refine wpAny_Try_except ?_
  let xe' : Value → Shared → Prop := fun e s₁ => wpAny (model X.prog X.w) X.A (noteFrame e X.env) (fun _ s₂ => wpAny (model X.prog X.w) X.A (setFlight e none) (fun _ s₃ =>
    wpAny (model X.prog X.w) X.A (handleBy e X.env [.ExceptHandler (some (.Name x npos)) (some n) (b₀ :: suite) pos']) (SP X pins D) X.xe s₃) X.xe s₂) X.xe s₁
  have tk' : Takes (X.tr (X.pn ++ pins) xe') W' := fun u s' xx => by
    obtain ⟨ad, B, sI, pins', σ', H', cls, d, rfl, J', nb, up, sky, na, os, ag, x0, g', pin, aX, xa, wX⟩ := xx
    have J : Inv X pins σ' H' sI := J'.ofTry ok
    have sky' : Sky B (X.env :: X.outer) ad (Zc cls d) X.env.locals s'.heap := by rw [← hst]; exact sky
    show wpAny (model X.prog X.w) X.A (noteFrame (.ref ad) X.env) _ _ _
    refine Sky.land Zc.steady hfr hf sky' fun h3 fl3 up3 => ?_
    have J3 : Inv X pins σ' H' { s' with heap := h3 } := J.landed nb fl3.1 (up.trans up3) os ag
    obtain ⟨oe3, vs3, he3, hz3, hd3⟩ := fl3.there
    have nfr : ad ∉ frs (X.env :: X.outer) := fun hm => by
      obtain ⟨_, o', e', hnf⟩ := fl3.2.2.1.mem hm
      rw [he3] at e'; cases e'
      exact hnf _ hd3
    unfold hanM at wX
    split at wX
    · rename_i hin
      obtain ⟨C, eC, mC, _⟩ := id xa
      subst eC
      have hb1 := hm _ hin C mC
      refine wpAny_handleBy_cons (codeAny_handlers_test ?_) (by intro q; cases q)
      have LT : PySem.W.Looks (model X.prog X.w) h3 (typeOf (.ref ad)) (.ref C) := fun A Q E s k q => wpAny_typeOf_ref (k _ _ he3) (by rw [hz3.1]; exact q)
      have LM := PySem.W.exm_one (M := model X.prog X.w) (J3.kIn) LT hb1
      have S3 : Inv (suite0 X ad (X.pn ++ pins)) [] σ' H' { s' with heap := h3 } := toSuite0 J3
      have test : ∀ {Q : Value → Shared → Prop} {E : Value → Shared → Prop}, Q cl { s' with heap := h3 } → wpAny (model X.prog X.w) (X.A.mark (some (.ref ad))) (eval (.Name x npos) X.env) Q E { s' with heap := h3 } := fun {Q E} q => by
        obtain ⟨hg, hdbg, hm | ⟨hm, hv, hnn⟩⟩ := hc
        · exact ld_glob (X := suite0 X ad (X.pn ++ pins)) S3 hg hm q hdbg
        · exact ld_blt (X := suite0 X ad (X.pn ++ pins)) S3 hg hm hv q hnn hdbg
      refine test (LM.here ?_)
      refine codeAny_handlers_suite_as ?_
      refine HandSPX.lands_againZ fl3 fun h4 fl4 up4 => ?_
      obtain ⟨oe4, vs4, he4, hz4, hd4⟩ := fl4.there
      have J4 : Inv X pins σ' (upd H' ad (exH ad (.ref C) d)) { s' with heap := h4 } := landed_exH J nb fl4.2.1 (by rw [hst]; exact nfr) fl4.1 ((up.trans up3).trans up4) os ag na he4 hz4 hd4
      have S4 : Inv (suite0 X ad (X.pn ++ pins)) [] σ' (upd H' ad (exH ad (.ref C) d)) { s' with heap := h4 } := toSuite0 J4
      refine store_ok (X := suite0 X ad (X.pn ++ pins)) (v := .ref ad) S4 hN hi hloc rfl (fun s5 S5 => ?_) (.inr hln)
      obtain ⟨t, h1, h2⟩ := (hsu ad (X.pn ++ pins) hN).ex
      have aS : At X (upd H' ad (exH ad (.ref C) d)) Ex (σ'.set i (some (.ref ad))) (g'.set i (some (.exc x0.c x0.fs))) T [] := At.storeAny (.ofTop aX.fit (aX.rel.caught na xa))
      have pinS : Pin np σ (σ'.set i (some (.ref ad))) := pin.trans (Pin.set hnp)
      let D' : Ends := { nx := fun σ6 H6 => D.nx (σ6.set i none) H6, rt := D.rt, bk := fun σ6 H6 => D.bk (σ6.set i none) H6, ct := fun σ6 H6 => D.ct (σ6.set i none) H6 }
      have w2 : Wp (ms (g'.set i (some (.exc x0.c x0.fs)))) (SPost (suite0 X ad (X.pn ++ pins)) np (σ'.set i (some (.ref ad))) T Ex D') (XPost (suite0 X ad (X.pn ++ pins)) (fun _ _ _ _ => False) np (σ'.set i (some (.ref ad))) T Ex) := by
        refine (Res.wp_noX.mp (Res.wp_bd.mp wX)).imp (fun fl g6 k => ?_) (fun _ _ z => z.elim)
        have k' : SPost X np σ T Ex D fl (g6.set i none) := k
        have pp : ∀ {σ6 : L2.St}, Pin np (σ'.set i (some (.ref ad))) σ6 → Pin np σ (σ6.set i none) := fun q => (pinS.trans q).trans (Pin.set hnp)
        cases fl with
        | next => exact fun σ6 H6 q a6 => k' (σ6.set i none) H6 (pp q) (At.gone (X := X) ⟨a6.fit, a6.rel⟩ i)
        | brk => exact fun σ6 H6 q a6 => k' (σ6.set i none) H6 (pp q) (At.gone (X := X) ⟨a6.fit, a6.rel⟩ i)
        | cnt => exact fun σ6 H6 q a6 => k' (σ6.set i none) H6 (pp q) (At.gone (X := X) ⟨a6.fit, a6.rel⟩ i)
        | ret o => exact fun v σ6 H6 q a6 => k' v (σ6.set i none) H6 (pp q) (At.gone (X := X) ⟨a6.fit, a6.rel⟩ i)
      refine wpAny_mono (h1.run [] s5 _ _ D' S5 (h2 _ _ D' _ T Ex ⟨aS.fit, aS.rel⟩ w2)) (fun f s6 hsp => ?_) (fun _ _ z => False.elim z)
      have end_ : ∀ {σ6 : L2.St} {H6 : Hp} {Q : Shared → Prop}, Inv (suite0 X ad (X.pn ++ pins)) [] σ6 H6 s6 → (∀ s7, Inv X pins (σ6.set i none) H6 s7 → Q s7) →
          wpAny (model X.prog X.w) X.A (do bindName X.env n .none; unbindBehindTheSuite X.env n pos') (fun _ s7 => Q s7) X.xe s6 := fun {σ6 H6 Q} S6 hq => gone_ok (ofSuite0 S6 ok) hN hi hln hq
      cases f with
      | next =>
        obtain ⟨σ6, H6, S6, q6⟩ := hsp
        exact end_ S6 fun s7 J7 => ⟨_, _, J7, q6⟩
      | brk =>
        obtain ⟨σ6, H6, S6, q6⟩ := hsp
        exact end_ S6 fun s7 J7 => ⟨_, _, J7, q6⟩
      | cont =>
        obtain ⟨σ6, H6, S6, q6⟩ := hsp
        exact end_ S6 fun s7 J7 => ⟨_, _, J7, q6⟩
      | ret u =>
        obtain ⟨v6, σ6, H6, S6, r6, q6⟩ := hsp
        exact end_ S6 fun s7 J7 => ⟨_, _, _, J7, r6, q6⟩
    · exact wX.elim
  have cc' : Cc (X.tr (X.pn ++ pins) xe') W' k := ⟨tk', cc.hr, cc.calm, cc.nd, PassesOwn.looking⟩
  obtain ⟨t, h1, h2⟩ := (hb W' (X.pn ++ pins) xe' cc').ex
  have wt : Wp (mb g) (SPost (X.tr (X.pn ++ pins) xe') np σ T Ex D) (XPost (X.tr (X.pn ++ pins) xe') W' np σ T Ex) := by
    refine wb.imp (fun fl g' k => ?_) (fun xx g' k σ' H' cls d pin a' xa => ⟨xx, g', pin, ⟨a'.fit, a'.rel⟩, xa, k⟩)
    cases fl with
    | next => exact fun σ' H' q a' => k σ' H' q ⟨a'.fit, a'.rel⟩
    | brk => exact fun σ' H' q a' => k σ' H' q ⟨a'.fit, a'.rel⟩
    | cnt => exact fun σ' H' q a' => k σ' H' q ⟨a'.fit, a'.rel⟩
    | ret o => exact fun v σ' H' q a' => k v σ' H' q ⟨a'.fit, a'.rel⟩
  refine wpAny_mono (h1.run [] s σ H D (I.toTry _) (h2 σ H D g T Ex ⟨a.fit, a.rel⟩ wt)) (fun f s1 hsp => ?_) (fun e s1 he => he)
  cases f with
  | next =>
    obtain ⟨σ', H', J', q⟩ := hsp
    exact wpAny_execs_nil ⟨σ', H', J'.ofTry ok, q⟩
  | brk =>
    obtain ⟨σ', H', J', q⟩ := hsp
    exact ⟨σ', H', J'.ofTry ok, q⟩
  | cont =>
    obtain ⟨σ', H', J', q⟩ := hsp
    exact ⟨σ', H', J'.ofTry ok, q⟩
  | ret u =>
    obtain ⟨v, σ', H', J', r, q⟩ := hsp
    exact ⟨v, σ', H', J'.ofTry ok, r, q⟩
end
end Z
namespace PySem.W
open PySem PySem.Spec PySem.Calls PyProof.Rows
section
variable {prog : Program} {w : World} {A : Around} {E : Value → Shared → Prop} {s : Shared} {K : Frag} {x D : Addr} {ox : Obj} {od : Option Obj}
theorem z_findObj_dataN {C : Addr} {name : Str} {a g : Value} (hc : (clsIn K C).isSome = true) (ha : findIn K (.ref C) name = some (some a)) (hg : specialIn K a "__get__" = some (some g)) (ht : takesIn K a = some true) : findObj K C od name = some (.bind g a) := by
  obtain ⟨cd, hc⟩ := Option.isSome_iff_exists.mp hc
  unfold findObj
  rw [hc, Option.bind_some, ha, Option.bind_some]
  simp [hg, ht]
theorem z_kin_classE {Q : Option Value → Shared → Prop} (hga : findIn K (.ref D) "__getattribute__" = some (some (.builtin "BaseException.__getattribute__"))) (hgt : findIn K (.ref D) "__getattr__" = some none) (hsub : subIn K (.ref D) (.type "BaseException") = some true)
    (hdct : hasDictIn K D = true) (ha : findIn K (.ref D) "__class__" = some (some (.builtin "object.__class__")))
    (hn : specialIn K (.builtin "object.__class__") "__get__" = some (some (.builtin "getset_descriptor.__get__"))) (htk : takesIn K (.builtin "object.__class__") = some true) (hm : mroIn K D (.type "object") = some true)
    (X : K.In s.heap) (I : InstAt s.heap x ox D od) (h : Q (some (.ref D)) { s with toks := s.toks + 1 }) : wpAny (model prog w) A (getAttr? (.ref x) "__class__") Q E s := by
  have hf : findObj K D od "__class__" = some (.bind (.builtin "getset_descriptor.__get__") (.builtin "object.__class__")) := z_findObj_dataN (by obtain ⟨cd, hc, _⟩ := any_some hdct; rw [hc]; rfl) ha hn htk
  obtain ⟨hp, g, d, t, os⟩ := s
  have L0 := I.type (M := model prog w)
  have L1 := looks_findIn (M := model prog w) X hga
  have L2 := looks_findIn (M := model prog w) X hgt
  have L3 := looks_find (M := model prog w) X I hf
  have sub : Looks (model prog w) hp (isInstance (.ref x) (.type "BaseException")) true := L0.andThen (looks_subIn X hsub)
  have hx0 : (false && onTheHeap (Value.builtin "BaseException.__getattribute__")) = false := rfl
  have hx2 : (Value.builtin "BaseException.__getattribute__" == Value.builtin "object.__getattribute__") = false := by decide +kernel
  have hx1 : (onTheHeap (Value.ref D) && Value.builtin "BaseException.__getattribute__" == Value.builtin "object.__getattribute__") = false := by rw [hx2]; rfl
  unfold getAttr? getAttrBy? getAttrBy
  refine wpAny_bind (wpAny_mkText (wpAny_bind (wpAny_attempt (wpAny_holding (wpAny_bind (L0.at (wpAny_bind (L1.at ?_))))))))
  show wpAny _ _ (if (onTheHeap (Value.ref D) && Value.builtin "BaseException.__getattribute__" == Value.builtin "object.__getattribute__") = true then _ else _) _ _ _
  rw [hx1, if_neg Bool.false_ne_true]
  unfold getAttrByItsOwn hookBefore
  refine wpAny_bind ?_
  rw [if_pos (show onTheHeap (Value.ref D) = true from rfl)]
  refine L2.at ?_
  refine wpAny_bind (wpAny_attempt (wpAny_holding ?_))
  unfold callGetattribute
  rw [hx0, if_neg Bool.false_ne_true]
  unfold boundAndCalled
  rw [PySem.F.excAttr_ValueError.ga.bind (.ref x)]
  refine wpAny_bind (wpAny_pure ?_)
  show wpAny _ _ (call (.builtin "BaseException.__getattribute__") [.ref x, .str "__class__" t]) _ _ _
  refine wpAny_call (codeAny_call_builtin PySem.F.excAttr_ValueError.ga.plain PySem.F.entry_bexc_ga ?_)
  refine @check_slot (model prog w) _ _ ⟨hp, g, d, t + 1, os⟩ "BaseException.__getattribute__" "BaseException" "__getattribute__" (.ref x) [.str "__class__" t] [] _ (by decide +kernel) (by decide +kernel) sub (PySem.F.args_bexc_ga (.ref x) (.str "__class__" t)) ?_
  unfold Builtin.«object.__getattribute__»
  refine wpAny_bind (wpAny_of_eq (a := ((Value.ref x : Value), [Value.str "__class__" t])) (by first | rfl | (simp only [slotArgs]; rfl)) ?_)
  refine wpAny_bind (wpAny_pure (wpAny_bind (L0.at (wpAny_bind (L3.at ?_)))))
  show wpAny _ _ (holding [Value.builtin "object.__class__"] (call (.builtin "getset_descriptor.__get__") [.builtin "object.__class__", .ref x, .ref D]) >>= ret) _ _ _
  refine wpAny_bind (wpAny_holding (wpAny_call (class_get (s := ⟨hp, g, d, t + 1, os⟩) (ox := ox) (od := od) X I hm ?_)))
  refine wpAny_pure ?_
  show wpAny _ _ (handedOut (.ref D)) _ _ _
  rw [handedOut_of (v := .ref D) rfl]
  first
    | exact wpAny_pure (wpAny_pure h)
    | exact wpAny_pure h
    | exact wpAny_pure (wpAny_bind (wpAny_pure (wpAny_pure h)))
theorem z_kitx_exc (hga : findIn K (.ref D) "__getattribute__" = some (some (.builtin "BaseException.__getattribute__"))) (hgt : findIn K (.ref D) "__getattr__" = some none) (hsub : subIn K (.ref D) (.type "BaseException") = some true) (hdct : hasDictIn K D = true) (ha : findIn K (.ref D) "__class__" = some (some (.builtin "object.__class__")))
    (hn : specialIn K (.builtin "object.__class__") "__get__" = some (some (.builtin "getset_descriptor.__get__"))) (htk : takesIn K (.builtin "object.__class__") = some true) (hm : mroIn K D (.type "object") = some true) :
    KitX K (.ref x) (.ref D) (fun h => ∃ ox od, InstAt h x ox D od) where
  ty := fun _ _ _ I => by obtain ⟨_, _, I⟩ := I; exact I.type
  it := fun _ _ X _ => by
    obtain ⟨cdD, hcD, _⟩ := any_some hdct
    unfold clsIn at hcD
    split at hcD
    · rename_i c' d' cd' sl' ho
      intro A' Q' E' s' k q
      unfold isType loadHead
      exact wpAny_bind (wpAny_loadPart (k _ _ (X _ _ ho)) (wpAny_pure q))
    · cases hcD
  ne := fun h tp dd its n sl X htp => by
    obtain ⟨cdD, hcD, _⟩ := any_some hdct
    refine Bool.eq_false_iff.mpr fun q => ?_
    have e : D = tp := Value.ref.inj (beq_iff_eq.mp q)
    subst e
    unfold clsIn at hcD
    split at hcD
    · rename_i c' d' cd' sl' ho
      have z := (X _ _ ho).symm.trans htp
      cases z
    · cases hcD
  ca := fun X I k => by obtain ⟨_, _, I⟩ := I; exact z_kin_classE hga hgt hsub hdct ha hn htk hm X I k
end
end PySem.W
namespace Z
open PySem PySem.Spec PyProof.Rows L2
/-- a tracked exception stands there -/
theorem exH_inst {P : Program} {w : World} {H : Hp} {h : Heap} {a C : Addr} {d : Option Addr} {K : PySem.W.Frag} {fs : List (Str × PyData)} (hok : HOk P w H h) (e : H a = some (exH a (.ref C) d)) : ∃ oe vs, h.get? a = some oe ∧ Zc (.ref C) d oe ∧ oe.data = .fields vs := by
  have x : ObjOk P w H h a (.ext fun h => ∃ (oe : Obj) (vs : Array Value), h.get? a = some oe ∧ Zc (.ref C) d oe ∧ oe.data = .fields vs) := hok a _ e
  exact x.1
end Z
namespace Z
open PySem PySem.Spec PyProof.Rows L2
/-- the dict of a tracked exception stands, too -/
def XdT (H : Hp) (d : Option Addr) : Prop := d = none ∨ ∃ dd fvs, d = some dd ∧ H dd = some (.xd fvs)
theorem exH_instAt {P : Program} {w : World} {H : Hp} {h : Heap} {a C : Addr} {d : Option Addr} (hok : HOk P w H h) (e : H a = some (exH a (.ref C) d)) (hd : XdT H d) : ∃ ox od, PySem.W.InstAt h a ox C od := by
  obtain ⟨oe, vs, ho, hz, hv⟩ := exH_inst (K := []) (fs := []) hok e
  rcases hd with rfl | ⟨dd, fvs, rfl, hx⟩
  · exact ⟨oe, none, ho, hz.1, by unfold PySem.W.notCls; rw [hv], by rw [hz.2]; trivial⟩
  · have hx' : ObjOk P w H h dd (.xd fvs) := hok dd _ hx
    obtain ⟨mA, hns, hr⟩ := hx'
    obtain ⟨od, hod, hl⟩ := lookIn_ns hns
    exact ⟨oe, some od, ho, hz.1, by unfold PySem.W.notCls; rw [hv], by rw [hz.2]; exact hod⟩
/-- isinstance of a tracked exception, one class; a tuple of classes -/
def rIsX (K : PySem.W.Frag) : List V → Hp → VK → Prop := fun xs H Q => ∃ (a C : Addr) (d : Option Addr) (c : V) (u : Value) (b : Bool), xs = [.ref a, c] ∧ ClsV c u ∧ H a = some (exH a (.ref C) d) ∧ XdT H d ∧ ExcC K C ∧ PySem.W.kitOne K (.ref C) u = some b ∧ Q (.bl b) H
def rIsXT (K : PySem.W.Frag) : List V → Hp → VK → Prop := fun xs H Q => ∃ (a C tp : Addr) (d : Option Addr) (cs : List V) (us : List Value) (b : Bool), xs = [.ref a, .ref tp] ∧ H tp = some (.tup cs) ∧ Paired ClsV cs us ∧ H a = some (exH a (.ref C) d) ∧ XdT H d ∧ ExcC K C ∧ PySem.W.kitAny K (.ref C) us = some b ∧ Q (.bl b) H
section
variable {X : Cx}
theorem call_isX : CallR X (.builtin "isinstance") (rIsX X.K) := by
  intro pins s σ H xs us Q I r h
  obtain ⟨a, C, d, c, u, b, rfl, k, e, hd, T, hk, q⟩ := h
  cases r with
  | cons r1 rr =>
    cases rr with
    | cons r2 rr =>
      cases rr
      cases r1
      have e2 := k.eq r2
      subst e2
      exact PySem.W.kia_one (PySem.W.z_kitx_exc T.hg T.hk T.hs T.hd T.ha T.hn T.ht T.hm) I.kIn (exH_instAt I.hok e hd) hk (fun z => nomatch z) fun tk => ⟨.bl b, H, I.tok tk, rfl, q⟩
theorem call_isXT : CallR X (.builtin "isinstance") (rIsXT X.K) := by
  intro pins s σ H xs us Q I r h
  obtain ⟨a, C, tp, d, cs, ws, b, rfl, et, k, e, hd, T, hk, q⟩ := h
  cases r with
  | cons r1 rr =>
    cases rr with
    | cons r2 rr =>
      cases rr
      cases r1
      cases r2
      obtain ⟨_, its, rv, o, h1, h2, n, h3⟩ := (show ObjOk X.prog X.w H s.heap tp (.tup cs) from I.hok tp _ et)
      have e3 := ClsV.all k rv
      subst e3
      obtain ⟨oc, od, oda, osl⟩ := o
      dsimp only at h2 h3
      subst h2 h3
      exact PySem.W.kia_tup (PySem.W.z_kitx_exc T.hg T.hk T.hs T.hd T.ha T.hn T.ht T.hm) I.kIn (exH_instAt I.hok e hd) h1 hk (fun z => nomatch z) fun tk => ⟨.bl b, H, I.tok tk, rfl, q⟩
end
/-- of which class one is, by the classes that may come -/
def isxM (ans : List (Str × Bool)) (m : M O) : M O := M.bd m fun o g => match o with
  | .exc c _ => match ans.lookup c with
    | some b => .ok (.d (.bool b)) g
    | none => .bad
  | _ => .bad
theorem wpIsx {ans : List (Str × Bool)} {o : O} {g : Gs} {A : O → Gs → Prop} {B : Exn → Gs → Prop} (h : Wp ((fun o g => match o with
  | O.exc c _ => match ans.lookup c with
    | some b => .ok (.d (.bool b)) g
    | none => .bad
  | _ => .bad : O → M O) o g) A B) : ∃ c fs b, o = .exc c fs ∧ ans.lookup c = some b ∧ A (.d (.bool b)) g := by
  cases o with
  | exc c fs =>
    dsimp only at h
    split at h
    · rename_i b q; exact ⟨c, fs, b, rfl, q, h⟩
    · exact h.elim
  | _ => exact h.elim
theorem lookup_mem {β : Type} {c : Str} {b : β} : ∀ {l : List (Str × β)}, l.lookup c = some b → (c, b) ∈ l
  | [], h => by cases h
  | (x, y) :: r, h => by
    rw [List.lookup_cons] at h
    split at h
    · rename_i q
      cases h
      have e : c = x := by simpa using q
      rw [e]; exact List.mem_cons_self
    · exact List.mem_cons_of_mem _ (lookup_mem h)
/-- what is seen of an exception -/
theorem Rel.exc {K : PySem.W.Frag} {mg : Str → Option Value} {H : Hp} {Ex : List (Addr × HO)} {rs ws : Roots} {v : V} {c : Str} {fs : List (Str × PyData)} (r : Rel K mg H Ex rs ((v, .exc c fs) :: ws)) :
    ∃ a C d, v = .ref a ∧ H a = some (exH a (.ref C) d) ∧ mg c = some (.ref C) ∧ XdT H d ∧ ∀ n x, fs.lookup n = some x → ∃ dd fvs v, d = some dd ∧ H dd = some (.xd fvs) ∧ fvs.lookup n = some v ∧ Rel K mg H Ex ((v, .d x) :: rs) ws := by
  obtain ⟨Hf, as, s, he, ho, nd, hn, hw⟩ := r.ex
  obtain ⟨bs, h⟩ := hw _ List.mem_cons_self
  cases h with
  | @exc H' a C c d fs h hm hx =>
    refine ⟨a, C, d, rfl, s.same _ _ h, hm, ?_, fun n x hl => ?_⟩
    · rcases hx with ⟨_, e⟩ | ⟨dd, fvs, e, h2, _, _⟩
      · exact .inl e
      · exact .inr ⟨dd, fvs, e, s.same _ _ h2⟩
    · rcases hx with ⟨e, _⟩ | ⟨dd, fvs, e, h2, h3, h4⟩
      · rw [e] at hl; cases hl
      · have key : ∀ {fvs : List (Str × V)} {fs : List (Str × PyData)}, fvs.map (·.1) = fs.map (·.1) → DpAll K Hf.h (fvs.map (·.2)) (fs.map (·.2)) → fs.lookup n = some x → ∃ v, fvs.lookup n = some v ∧ Dp K Hf.h v x := by
          intro fvs
          induction fvs with
          | nil => intro fs e1 e2 e3; cases fs with | nil => cases e3 | cons _ _ => cases e1
          | cons p l ih =>
            intro fs e1 e2 e3
            cases fs with
            | nil => cases e1
            | cons q r =>
              simp only [List.map_cons, List.cons.injEq] at e1
              obtain ⟨e1, e1'⟩ := e1
              cases e2 with
              | cons d1 d2 =>
                obtain ⟨p1, p2⟩ := p
                obtain ⟨q1, q2⟩ := q
                simp only at e1
                subst e1
                rw [List.lookup_cons] at e3 ⊢
                split at e3
                · cases e3; exact ⟨_, rfl, d1⟩
                · exact ih e1' d2 e3
        obtain ⟨v, l1, l2⟩ := key h3 h4 hl
        exact ⟨dd, fvs, v, e, s.same _ _ h2, l1, Hf, as, s, he, .cons (as := []) (.d l2) ho, nd, hn, fun p m => hw p (List.mem_cons_of_mem _ m)⟩
section
variable {X : Cx} {W : WX} {pu : Bool} {a : Expr} {m : M O} {pos p p2 p3 : Pos} {ans : List (Str × Bool)}
theorem ev_isx {n : Str} {cv : V} {u : Value} (hP : EvP X W pu a m) (hm : X.mg "isinstance" = none) (hv : bootBuiltins "isinstance" = some (.builtin "isinstance")) (pt : PE X (.Name n p2) (tC cv)) (k : ClsV cv u)
    (hk : ∀ c b, (c, b) ∈ ans → ∀ C, X.mg c = some (.ref C) → ExcC X.K C ∧ PySem.W.kitOne X.K (.ref C) u = some b) (hg : Gl X "isinstance" := by rfl)
    (he : starEach [a, .Name n p2] X.env = (false, eval a X.env) :: starEach [.Name n p2] X.env := by rfl) (he2 : starEach [.Name n p2] X.env = (false, eval (.Name n p2) X.env) :: starEach [] X.env := by rfl) (hpl : (backTo pos (starEach [.Name n p2] X.env)).any (·.1) = false := by rfl) :
    Ev X W pu (.Call (.Name "isinstance" p) [a, .Name n p2] [] pos) (isxM ans m) := by
  obtain ⟨t, h1, h2⟩ := hP.ex
  refine ⟨_, pe_callB call_isX hg hm hv (pa_cons h1 (pa_cons pt pa_nil he2) he) (by decide) (by decide) he hpl, fun σ H Q g T Ex ws a w => h2 σ H _ g T Ex ws a (w.bd.imp (fun o g' kk v H' s a' => ?_) fun _ _ kk => kk)⟩
  obtain ⟨c, fs, b, rfl, hl, kk⟩ := wpIsx kk
  obtain ⟨ad, C, d, rfl, e1, e2, e3, _⟩ := a'.rel.exc
  obtain ⟨T, hK⟩ := hk c b (lookup_mem hl) C e2
  refine ⟨ad, C, d, cv, u, b, rfl, k, e1, e3, T, hK, ?_⟩
  exact kk _ H' s ((a'.data fun _ => .bl _).views fun p m => List.mem_cons_of_mem _ m)
/-- names of classes, in a row -/
inductive PCs (X : Cx) : List Expr → List V → List Value → Prop
  | nil : PCs X [] [] []
  | cons {n : Str} {p : Pos} {es : List Expr} {c : V} {u : Value} {cs : List V} {us : List Value} : PE X (.Name n p) (tC c) → ClsV c u → (starEach (.Name n p :: es) X.env = (false, eval (.Name n p) X.env) :: starEach es X.env) → PCs X es cs us → PCs X (.Name n p :: es) (c :: cs) (u :: us)
def tCs : List V → TA
  | [] => tNil
  | c :: cs => tCons (tC c) (tCs cs)
theorem PCs.pa {X : Cx} : ∀ {es : List Expr} {cs : List V} {us : List Value}, PCs X es cs us → PA X es (tCs cs)
  | _, _, _, .nil => pa_nil
  | _, _, _, .cons h _ s t => pa_cons h t.pa s
theorem PCs.all {X : Cx} : ∀ {es : List Expr} {cs : List V} {us : List Value}, PCs X es cs us → Paired ClsV cs us
  | _, _, _, .nil => .nil
  | _, _, _, .cons _ k _ t => .cons k t.all
theorem tCs_run {σ : L2.St} {H : Hp} {Q : List V → Hp → Prop} : ∀ {cs : List V}, Q cs H → tCs cs σ H Q
  | [], h => h
  | c :: cs, h => by
    show tCs cs σ H fun vs H2 => Q (c :: vs) H2
    exact tCs_run (Q := fun vs H2 => Q (c :: vs) H2) h
theorem ev_isxT {es : List Expr} {x1 : Nat} {cs : List V} {us : List Value} (hP : EvP X W pu a m) (hm : X.mg "isinstance" = none) (hv : bootBuiltins "isinstance" = some (.builtin "isinstance")) (pt : PCs X es cs us) (hlen : cs.length ≤ 16)
    (hk : ∀ c b, (c, b) ∈ ans → ∀ C, X.mg c = some (.ref C) → ExcC X.K C ∧ PySem.W.kitAny X.K (.ref C) us = some b) (hg : Gl X "isinstance" := by rfl)
    (he : starEach [a, .Tuple es x1 p2] X.env = (false, eval a X.env) :: starEach [.Tuple es x1 p2] X.env := by rfl) (he2 : starEach [.Tuple es x1 p2] X.env = (false, eval (.Tuple es x1 p2) X.env) :: starEach [] X.env := by rfl) (hpl : (backTo pos (starEach [.Tuple es x1 p2] X.env)).any (·.1) = false := by rfl) :
    Ev X W pu (.Call (.Name "isinstance" p) [a, .Tuple es x1 p2] [] pos) (isxM ans m) := by
  obtain ⟨t, h1, h2⟩ := hP.ex
  refine ⟨_, pe_callB call_isXT hg hm hv (pa_cons h1 (pa_cons (pe_tup pt.pa) pa_nil he2) he) (by decide) (by decide) he hpl, fun σ H Q g T Ex ws a w => h2 σ H _ g T Ex ws a (w.bd.imp (fun o g' kk v H' s a' => ?_) fun _ _ kk => kk)⟩
  obtain ⟨c, fs, b, rfl, hl, kk⟩ := wpIsx kk
  refine tCs_run ⟨by rw [sizeLine_eq]; omega, fun tp htp => ?_⟩
  have sm : Same H' (upd H' tp (.tup cs)) := sameUpd htp
  have a2 := a'.same sm
  obtain ⟨ad, C, d, rfl, e1, e2, e3, _⟩ := a2.rel.exc
  obtain ⟨T, hK⟩ := hk c b (lookup_mem hl) C e2
  refine ⟨ad, C, tp, d, cs, us, b, rfl, upd_same, pt.all, e1, e3, T, hK, ?_⟩
  exact kk _ _ (fun z => ⟨(s z).1, (s z).2.trans sm⟩) ((a2.data fun _ => .bl _).views fun p m => List.mem_cons_of_mem _ m)
def tXfL (K : PySem.W.Frag) (f : Str) (te : TE) : TE := fun σ H Q => te σ H fun x H1 => ∃ (a C dd : Addr) (fvs : List (Str × V)) (v : V), x = .ref a ∧ H1 a = some (exH a (.ref C) (some dd)) ∧ H1 dd = some (.xd fvs) ∧ XfC K C ∧ PySem.W.findIn K (.ref C) f = some none ∧ fvs.lookup f = some v ∧ Q v H1
theorem pe_xfL {e : Expr} {te : TE} {n : Str} (he : PE X e te) (hb : attributeBase e n X.env (eval e X.env) = eval e X.env := by rfl) : PE X (.Attribute e n pos) (tXfL X.K n te) := by
  refine ⟨fun pins s σ H Q I h => ?_⟩
  refine attr_of hb (thn (he.run pins s σ H _ I h) fun u s1 hh => ?_)
  obtain ⟨x, H1, I1, rx, a, C, dd, fs, v, ex, ea, ed, T, hno, l, q⟩ := hh
  subst ex
  obtain rfl : u = Value.ref a := rx
  obtain ⟨oe, vs, ha, hz, hd⟩ := exH_inst (K := []) (fs := []) I1.hok ea
  have hx : ObjOk X.prog X.w H1 s1.heap dd (.xd fs) := I1.hok dd _ ed
  obtain ⟨mA, hns, hr⟩ := hx
  obtain ⟨od, ho, hl⟩ := lookIn_ns hns
  obtain ⟨u, hu, ru⟩ := RelO.some_of (v := v) (o := mA n) (by rw [← l]; exact hr n)
  have J : PySem.W.InstAt s1.heap a oe C (some od) := ⟨ha, hz.1, by unfold PySem.W.notCls; rw [hd], by rw [hz.2]; exact ho⟩
  exact HandSPX.exc_get I1.kIn J T.ga T.gg T.exC (PySem.W.findObj_own T.hdC hno rfl (by rw [hl, hu])) (handed_of ru) ⟨v, H1, I1.tok _, ru, q⟩
def xfM (cs : List Str) (f : Str) (m : M O) : M O := M.bd m fun o g => match o with
  | .exc c fs => if c ∈ cs then match fs.lookup f with
    | some x => .ok (.d x) g
    | none => .bad else .bad
  | _ => .bad
theorem wpXf {cs : List Str} {f : Str} {o : O} {g : Gs} {A : O → Gs → Prop} {B : Exn → Gs → Prop} (h : Wp ((fun o g => match o with
  | O.exc c fs => if c ∈ cs then match fs.lookup f with
    | some x => .ok (.d x) g
    | none => .bad else .bad
  | _ => .bad : O → M O) o g) A B) : ∃ c fs x, o = .exc c fs ∧ c ∈ cs ∧ fs.lookup f = some x ∧ A (.d x) g := by
  cases o with
  | exc c fs =>
    dsimp only at h
    split at h
    · rename_i hc
      split at h
      · rename_i x q; exact ⟨c, fs, x, rfl, hc, q, h⟩
      · exact h.elim
    · exact h.elim
  | _ => exact h.elim
theorem ev_xf {n : Str} {cs : List Str} (hP : EvP X W pu a m) (hk : ∀ c ∈ cs, ∀ C, X.mg c = some (.ref C) → XfC X.K C ∧ PySem.W.findIn X.K (.ref C) n = some none)
    (hb : attributeBase a n X.env (eval a X.env) = eval a X.env := by rfl) : Ev X W pu (.Attribute a n pos) (xfM cs n m) := by
  obtain ⟨t, h1, h2⟩ := hP.ex
  refine ⟨_, pe_xfL h1 hb, fun σ H Q g T Ex ws a w => h2 σ H _ g T Ex ws a (w.bd.imp (fun o g' kk v H' s a' => ?_) fun _ _ kk => kk)⟩
  obtain ⟨c, fs, x, rfl, hc, hl, kk⟩ := wpXf kk
  obtain ⟨ad, C, d, rfl, e1, e2, _, e4⟩ := a'.rel.exc
  obtain ⟨dd, fvs, v, rfl, f1, f2, rr⟩ := e4 n x hl
  obtain ⟨T, hno⟩ := hk c hc C e2
  refine ⟨ad, C, dd, fvs, v, rfl, e1, f1, T, hno, f2, ?_⟩
  exact kk v H' s (.ofTop a'.fit rr)
end
end Z
namespace Z
open PySem PySem.Spec PyProof.Rows L2
section
variable {K : PySem.W.Frag} {mg : Str → Option Value} {h : Heap}
/-- the class that is over all -/
structure XBase (K : PySem.W.Frag) (mg : Str → Option Value) (x : Str) : Prop where
  ex : ∃ (CB : Addr) (mc : Value), mg x = some (.ref CB) ∧ ClX.CRead K CB mc ∧ PySem.W.findCls K (.ref CB) mc "__init__" = some (.val (.builtin "ValueError.__init__"))
theorem xbAt {x : Str} {C : Addr} {mc : Value} (X : K.In h) (G : h.Ns mainGlobals mg) (a : PySem.W.nsIn K mainGlobals x = some (some (.ref C))) (r : PySem.W.readsIn K C mc = true) (g : PySem.W.specialIn K (.ref C) "__getattribute__" = some (some (.builtin "type.__getattribute__")))
    (f : PySem.W.findCls K (.ref C) mc "__init__" = some (.val (.builtin "ValueError.__init__"))) : XBase K mg x := ⟨C, mc, PySem.W.mg_of X G a, ⟨r, g⟩, f⟩
/-- a class made with one thing -/
structure XMakAt (K : PySem.W.Frag) (mg : Str → Option Value) (c q fn : Str) (st : Stmt) : Prop where
  ex : ∃ (C f : Addr) (fd : FuncData), mg c = some (.ref C) ∧ OexC K C ∧ PySem.W.findIn K (.ref C) "__init__" = some (some (.ref f)) ∧ PySem.W.typeIn K (.ref f) = some (.type "function") ∧ PySem.W.findIn K (.ref C) fn = some none ∧ Fun K "__init__" q st f fd
theorem xmakAt {c q fn : Str} {C f : Addr} {st : Stmt} {oc : Value} {od an : Option Addr} {osl : Array (Option Value)} {kV doc pm cdv ct : Value} {nm qn : Str} {N : Addr} {bs bm : List Value} {sn : List Str} {sub : List Value} {ab : Bool} {col : Option Bool} {dd : Option Addr} {k0 k1 k2 k3 k5 : Option Value}
    (X : K.In h) (G : h.Ns mainGlobals mg) (a : PySem.W.nsIn K mainGlobals c = some (some (.ref C))) (lc : K.lookup C = some (excClassObj nm qn C N bs bm true sn sub ab col dd k0 k1 k2 k3 k5 "ValueError.__new__")) (rv : PySem.HandSPX.refsVE bm = true)
    (sa : PySem.W.findIn K (.ref C) "__setattr__" = some (some (.builtin "object.__setattr__"))) (sb : PySem.W.subIn K (.ref C) (.type "BaseException") = some true) (ty : PySem.W.typeIn K (.ref C) = some (.type "type")) (kc : PySem.W.keepIn K (.ref C) = true)
    (i : PySem.W.findIn K (.ref C) "__init__" = some (some (.ref f))) (tf : PySem.W.typeIn K (.ref f) = some (.type "function")) (n : PySem.W.findIn K (.ref C) fn = some none)
    (l : K.lookup f = some ⟨oc, od, .func (PySem.W.fnOf "__init__" q (defArgs st) (defBody st) (defScope st) .none kV doc pm an cdv ct), osl⟩) (cd : PySem.W.codeIn K cdv q = true) (k : PySem.W.keepIn K (.ref f) = true) : XMakAt K mg c q fn st :=
  ⟨C, f, _, PySem.W.mg_of X G a, ⟨⟨_, _, _, _, _, _, _, _, _, _, _, _, _, _, _, lc, rv⟩, sa, sb, ty, kc⟩, i, tf, n, fun_mk l cd k⟩
/-- the handler of a class takes these -/
structure Hnd (K : PySem.W.Frag) (mg : Str → Option Value) (x : Str) (hs : List Str) : Prop where
  ex : ∃ D, mg x = some (.ref D) ∧ ∀ c ∈ hs, ∀ C, mg c = some (.ref C) → PySem.W.exmOne K (.ref C) (.ref D) = some true
theorem hndNil {x : Str} {D : Addr} (X : K.In h) (G : h.Ns mainGlobals mg) (a : PySem.W.nsIn K mainGlobals x = some (some (.ref D))) : mg x = some (.ref D) ∧ ∀ c ∈ ([] : List Str), ∀ C, mg c = some (.ref C) → PySem.W.exmOne K (.ref C) (.ref D) = some true := ⟨PySem.W.mg_of X G a, fun _ h => nomatch h⟩
theorem hndCons {x c : Str} {hs : List Str} {C D : Addr} (X : K.In h) (G : h.Ns mainGlobals mg) (a : PySem.W.nsIn K mainGlobals c = some (some (.ref C))) (e : PySem.W.exmOne K (.ref C) (.ref D) = some true) (r : mg x = some (.ref D) ∧ ∀ c ∈ hs, ∀ C, mg c = some (.ref C) → PySem.W.exmOne K (.ref C) (.ref D) = some true) :
    mg x = some (.ref D) ∧ ∀ c' ∈ c :: hs, ∀ C, mg c' = some (.ref C) → PySem.W.exmOne K (.ref C) (.ref D) = some true := ⟨r.1, fun c' m C' hC => by
  rcases List.mem_cons.mp m with q | m
  · subst q
    have := (PySem.W.mg_of X G a).symm.trans hC
    cases this
    exact e
  · exact r.2 c' m C' hC⟩
theorem hndOf {x : Str} {hs : List Str} {D : Addr} (r : mg x = some (.ref D) ∧ ∀ c ∈ hs, ∀ C, mg c = some (.ref C) → PySem.W.exmOne K (.ref C) (.ref D) = some true) : Hnd K mg x hs := ⟨D, r⟩
/-- what isinstance says of instances of these classes; us: the class or the classes asked for -/
def IsAll (K : PySem.W.Frag) (mg : Str → Option Value) (us : List Value) (ans : List (Str × Bool)) : Prop := ∀ c b, (c, b) ∈ ans → ∀ C, mg c = some (.ref C) → ExcC K C ∧ PySem.W.kitAny K (.ref C) us = some b
theorem isNil {us : List Value} : IsAll K mg us [] := fun _ _ h => nomatch h
theorem isCons {c : Str} {b : Bool} {ans : List (Str × Bool)} {us : List Value} {C : Addr} (X : K.In h) (G : h.Ns mainGlobals mg) (a : PySem.W.nsIn K mainGlobals c = some (some (.ref C))) (T : ExcC K C) (e : PySem.W.kitAny K (.ref C) us = some b) (r : IsAll K mg us ans) : IsAll K mg us ((c, b) :: ans) := fun c' b' m C' hC => by
  rcases List.mem_cons.mp m with q | m
  · cases q
    have := (PySem.W.mg_of X G a).symm.trans hC
    cases this
    exact ⟨T, e⟩
  · exact r c' b' m C' hC
theorem kitOne_of {t u : Value} {b : Bool} (h : PySem.W.kitAny K t [u] = some b) : PySem.W.kitOne K t u = some b := by
  unfold PySem.W.kitAny at h
  split at h
  · rename_i q; cases h; exact q
  · rename_i q; rw [q]; cases h; rfl
  · cases h
/-- classes by their names -/
inductive ClsNs (mg : Str → Option Value) : List Str → List Value → Prop
  | nil : ClsNs mg [] []
  | own {n : Str} {D : Addr} {ns : List Str} {us : List Value} : mg n = some (.ref D) → ClsNs mg ns us → ClsNs mg (n :: ns) (.ref D :: us)
  | ty {n : Str} {nt : String} {ns : List Str} {us : List Value} : mg n = none → bootBuiltins n = some (.type nt) → ClsNs mg ns us → ClsNs mg (n :: ns) (.type nt :: us)
structure Isx (K : PySem.W.Frag) (mg : Str → Option Value) (ns : List Str) (ans : List (Str × Bool)) : Prop where
  ex : ∃ us, ClsNs mg ns us ∧ IsAll K mg us ans
structure Xfs (K : PySem.W.Frag) (mg : Str → Option Value) (f : Str) (cs : List Str) : Prop where
  ex : ∀ c ∈ cs, ∀ C, mg c = some (.ref C) → XfC K C ∧ PySem.W.findIn K (.ref C) f = some none
theorem xfsNil {f : Str} : Xfs K mg f [] := ⟨fun _ h => nomatch h⟩
theorem xfsCons {f c : Str} {cs : List Str} {C : Addr} (X : K.In h) (G : h.Ns mainGlobals mg) (a : PySem.W.nsIn K mainGlobals c = some (some (.ref C))) (T : XfC K C) (n : PySem.W.findIn K (.ref C) f = some none) (r : Xfs K mg f cs) : Xfs K mg f (c :: cs) := ⟨fun c' m C' hC => by
  rcases List.mem_cons.mp m with q | m
  · subst q
    have := (PySem.W.mg_of X G a).symm.trans hC
    cases this
    exact ⟨T, n⟩
  · exact r.ex c' m C' hC⟩
end
section
variable {X : Cx} {W : WX} {pu : Bool} {a : Expr} {m : M O} {pos p p2 : Pos} {ans : List (Str × Bool)} {k np : Nat} {mb ms : M Fl}
theorem ev_isx1 {n : Str} (hP : EvP X W pu a m) (hm : X.mg "isinstance" = none) (I : Isx X.K X.mg [n] ans) (hgn : Gl X n := by rfl) (hnn : n ≠ "__name__" := by decide) (hnd : (n == ("__debug__" : Str)) = false := by decide) (hg : Gl X "isinstance" := by rfl)
    (he : starEach [a, .Name n p2] X.env = (false, eval a X.env) :: starEach [.Name n p2] X.env := by rfl) (he2 : starEach [.Name n p2] X.env = (false, eval (.Name n p2) X.env) :: starEach [] X.env := by rfl) (hpl : (backTo pos (starEach [.Name n p2] X.env)).any (·.1) = false := by rfl) :
    Ev X W pu (.Call (.Name "isinstance" p) [a, .Name n p2] [] pos) (isxM ans m) := by
  obtain ⟨us, h1, h2⟩ := I.ex
  cases h1 with
  | own hD r =>
    cases r
    exact ev_isx hP hm boot_isi_ (pe_glob hgn hD (v := .ref _) rfl hnd) (.own _) (fun c b m C hC => ⟨(h2 c b m C hC).1, kitOne_of (h2 c b m C hC).2⟩) hg he he2 hpl
  | ty h0 hb r =>
    cases r
    exact ev_isx hP hm boot_isi_ (pe_bltn (v := .ty _) hgn h0 hb rfl hnn hnd) (.ty _) (fun c b m C hC => ⟨(h2 c b m C hC).1, kitOne_of (h2 c b m C hC).2⟩) hg he he2 hpl
/-- names, each known to be no local -/
inductive GlNs (X : Cx) : List Expr → List Str → Prop
  | nil : GlNs X [] []
  | cons {n : Str} {p : Pos} {es : List Expr} {ns : List Str} : Gl X n → n ≠ "__name__" → (n == ("__debug__" : Str)) = false → (starEach (.Name n p :: es) X.env = (false, eval (.Name n p) X.env) :: starEach es X.env) → GlNs X es ns → GlNs X (.Name n p :: es) (n :: ns)
theorem pcsOf : ∀ {es : List Expr} {ns : List Str} {us : List Value}, GlNs X es ns → ClsNs X.mg ns us → ∃ cs, PCs X es cs us ∧ cs.length = es.length
  | _, _, _, .nil, .nil => ⟨[], .nil, rfl⟩
  | _, _, _, .cons hg hn hd hs r, .own hm t => by
    obtain ⟨cs, h, hl⟩ := pcsOf r t
    exact ⟨_, .cons (pe_glob hg hm (v := .ref _) rfl hd) (.own _) hs h, by simp [hl]⟩
  | _, _, _, .cons hg hn hd hs r, .ty h0 hb t => by
    obtain ⟨cs, h, hl⟩ := pcsOf r t
    exact ⟨_, .cons (pe_bltn (v := .ty _) hg h0 hb rfl hn hd) (.ty _) hs h, by simp [hl]⟩
theorem ev_isxN {es : List Expr} {x1 : Nat} {ns : List Str} (hP : EvP X W pu a m) (hm : X.mg "isinstance" = none) (I : Isx X.K X.mg ns ans) (gn : GlNs X es ns) (hlen : es.length ≤ 16 := by decide) (hg : Gl X "isinstance" := by rfl)
    (he : starEach [a, .Tuple es x1 p2] X.env = (false, eval a X.env) :: starEach [.Tuple es x1 p2] X.env := by rfl) (he2 : starEach [.Tuple es x1 p2] X.env = (false, eval (.Tuple es x1 p2) X.env) :: starEach [] X.env := by rfl) (hpl : (backTo pos (starEach [.Tuple es x1 p2] X.env)).any (·.1) = false := by rfl) :
    Ev X W pu (.Call (.Name "isinstance" p) [a, .Tuple es x1 p2] [] pos) (isxM ans m) := by
  obtain ⟨us, h1, h2⟩ := I.ex
  obtain ⟨cs, h3, h4⟩ := pcsOf gn h1
  exact ev_isxT hP hm boot_isi_ h3 (by omega) h2 hg he he2 hpl
theorem ev_xfs {n : Str} {cs : List Str} (hP : EvP X W pu a m) (hk : Xfs X.K X.mg n cs) (hb : attributeBase a n X.env (eval a X.env) = eval a X.env := by rfl) : Ev X W pu (.Attribute a n pos) (xfM cs n m) := ev_xf hP hk.ex hb
/-- what a suite stands on -/
structure Csu (X : Cx) : Prop where
  nd : X.N.Nodup
theorem es_tryH {x n : Str} {body suite : List Stmt} {b₀ : Stmt} {npos pos' : Pos} {hs : List Str} (i : Nat) (cc : Cc X W k) (hnp : np ≤ i) (H : Hnd X.K X.mg x hs)
    (hb : ∀ (W' : WX) (pn : List (Addr × Obj)) (xe : Value → Shared → Prop), Cc (X.tr pn xe) W' k → EvSs (X.tr pn xe) W' np body mb)
    (hsu : ∀ (a : Addr) (pn : List (Addr × Obj)), Csu (suite0 X a pn) → EvSs (suite0 X a pn) (fun _ _ _ _ => False) np (b₀ :: suite) ms)
    (hg : Gl X x := by rfl) (hdb : (x == ("__debug__" : Str)) = false := by decide)
    (hst : X.stack = X.env :: X.outer := by rfl) (hf : X.env.frame = some X.env.locals := by rfl) (hi : X.N[i]? = some n := by rfl) (hln : X.env.kindOf n = some .local := by rfl) :
    EvS X W np (.Try body [.ExceptHandler (some (.Name x npos)) (some n) (b₀ :: suite) pos'] [] [] pos) (tryM hs i mb ms) := by
  obtain ⟨D, h1, h2⟩ := H.ex
  exact es_tryAs i cc hnp ⟨hg, hdb, .inl h1⟩ h2 hb (fun a pn nd => hsu a pn ⟨nd⟩) hst hf hi hln
end
end Z
namespace PySem
open PySem.Spec
end PySem
namespace L2
open PySem PySem.Spec PyProof.Rows
end L2
namespace Z
open PySem PySem.Spec PyProof.Rows L2
end Z
namespace Z
open PySem PySem.Spec PyProof.Rows L2
section
variable {A : O → Gs → Prop} {AF : Fl → Gs → Prop} {B : Exn → Gs → Prop} {g g' g1 : Gs} {m : M O} {mb ms : M Fl} {i : Nat} {c f : Str} {x : PyData} {s : Str} {n : Int} {fs : List (Str × PyData)} {hs cs : List Str} {ans : List (Str × Bool)} {AO : O → Prop}
def RaiK (c f : Str) (B : Exn → Gs → Prop) : O → Gs → Prop
  | .d x, g => flatF x = true ∧ B ⟨c, [(f, x)]⟩ g
  | _, _ => False
instance s_rai : Stp (Wp (raiM c f m g) AF B) (Wp (m g) (RaiK c f B) B) := ⟨fun h => by
  unfold raiM
  refine Res.wp_bd.mpr (h.imp (fun o g1 k => ?_) fun _ _ z => z)
  cases o with
  | d x =>
    dsimp only
    rw [if_pos k.1]
    exact k.2
  | _ => exact k.elim⟩
instance s_raiI : Stp (RaiK c f B (.d (.int n)) g) (B ⟨c, [(f, .int n)]⟩ g) := ⟨fun h => ⟨rfl, h⟩⟩
def HanK (hs : List Str) (i : Nat) (ms : M Fl) (AF : Fl → Gs → Prop) (B : Exn → Gs → Prop) : Exn → Gs → Prop := fun x g => Wp (hanM hs i ms x g) AF B
def TeK (i : Nat) (AF : Fl → Gs → Prop) : Fl → Gs → Prop := fun fl g => AF fl (g.set i none)
instance s_tryx : Stp (Wp (tryM hs i mb ms g) AF B) (Wp (mb g) AF (HanK hs i ms AF B)) := ⟨fun h => Res.wp_exc.mpr h⟩
instance s_han [p : Put g i (some (.exc c fs)) g'] : Stp (HanK hs i ms AF B ⟨c, fs⟩ g) (Sd (c ∈ hs) (Wp (ms g') (TeK i AF) NoB)) := ⟨fun h => by
  unfold HanK hanM
  rw [if_pos h.l, p.put]
  exact Res.wp_bd.mpr (Res.wp_noX.mpr h.r)⟩
instance s_te {fl : Fl} [p : Put g i none g'] : Stp (TeK i AF fl g) (AF fl g') := ⟨fun h => by
  unfold TeK
  rw [p.put]; exact h⟩
class AkC (ans : List (Str × Bool)) (c : Str) (b : outParam Bool) : Prop where
  eq : ans.lookup c = some b
instance lkH {b : Bool} {r : List (Str × Bool)} : AkC ((c, b) :: r) c b := ⟨by rw [List.lookup_cons]; simp⟩
def IsxK (ans : List (Str × Bool)) (A : O → Gs → Prop) : O → Gs → Prop
  | .exc c _, g => ∃ b, ans.lookup c = some b ∧ A (.d (.bool b)) g
  | _, _ => False
instance s_isx : Stp (Wp (isxM ans m g) A B) (Wp (m g) (IsxK ans A) B) := ⟨fun h => by
  unfold isxM
  refine Res.wp_bd.mpr (h.imp (fun o g1 k => ?_) fun _ _ z => z)
  cases o with
  | exc c fs =>
    obtain ⟨b, e, k⟩ := k
    dsimp only
    rw [e]
    exact k
  | _ => exact k.elim⟩
instance s_isxK {b : Bool} [l : AkC ans c b] : Stp (IsxK ans A (.exc c fs) g) (A (.d (.bool b)) g) := ⟨fun h => ⟨b, l.eq, h⟩⟩
def XfK (cs : List Str) (f : Str) (A : O → Gs → Prop) : O → Gs → Prop
  | .exc c fs, g => c ∈ cs ∧ ∃ x, fs.lookup f = some x ∧ A (.d x) g
  | _, _ => False
instance s_xf : Stp (Wp (xfM cs f m g) A B) (Wp (m g) (XfK cs f A) B) := ⟨fun h => by
  unfold xfM
  refine Res.wp_bd.mpr (h.imp (fun o g1 k => ?_) fun _ _ z => z)
  cases o with
  | exc c fs =>
    obtain ⟨hc, x, e, k⟩ := k
    dsimp only
    rw [if_pos hc, e]
    exact k
  | _ => exact k.elim⟩
instance s_xfK {r : List (Str × PyData)} : Stp (XfK cs f A (.exc c ((f, x) :: r)) g) (Sd (c ∈ cs) (A (.d x) g)) := ⟨fun h => ⟨h.l, x, by rw [List.lookup_cons]; simp, h.r⟩⟩
def ChK (f' : List O → Option O) (mc : M O) (A : O → Gs → Prop) (B : Exn → Gs → Prop) (y : O) : O → Gs → Prop
  | .d (.bool b), g => IfK b (Wp (mc g) (fun u g2 => optW (f' [y, u]) fun r => A r g2) B) (A (.d (.bool false)) g)
  | _, _ => False
instance s_ch {h h' : List O → Option O} {ma mb mc : M O} : Stp (Wp (chM h h' ma mb mc g) A B) (Wp (ma g) (fun x g1 => Wp (mb g1) (fun y g2 => optW (h [x, y]) fun z => ChK h' mc A B y z g2) B) B) := ⟨fun k => by
  rw [wp_ch]
  refine k.mono (fun x g1 k => k.mono (fun y g2 k => ?_) fun _ _ z => z) fun _ _ z => z
  have key : ∀ oz : Option O, optW oz (fun z => ChK h' mc A B y z g2) → optW oz (fun z => match z with
    | .d (.bool k) => if k = true then Wp (mc g2) (fun u g3 => optW (h' [y, u]) fun o => A o g3) B else A (.d (.bool false)) g2
    | _ => False) := by
    intro oz k
    cases oz with
    | none => exact k
    | some z =>
      cases z with
      | d z =>
        cases z with
        | bool b => cases b <;> exact k
        | _ => exact k
      | _ => exact k
  exact key _ k⟩
instance s_chK {h' : List O → Option O} {mc : M O} {y : O} {b : Bool} : Stp (ChK h' mc A B y (.d (.bool b)) g) (IfK b (Wp (mc g) (fun u g2 => optW (h' [y, u]) fun r => A r g2) B) (A (.d (.bool false)) g)) := ⟨fun k => k⟩
def SlyK (A : O → Gs → Prop) (o : O) (i : Int) : O → Gs → Prop
  | .d (.int j), g => optW (slB o (some i) (some j)) fun r => A r g
  | _, _ => False
def SlxK (mh : M O) (A : O → Gs → Prop) (B : Exn → Gs → Prop) (o : O) : O → Gs → Prop
  | .d (.int i), g => Wp (mh g) (SlyK A o i) B
  | _, _ => False
instance s_slLh {ma ml mh : M O} : Stp (Wp (slLhM ma ml mh g) A B) (Wp (ma g) (fun o g1 => Wp (ml g1) (SlxK mh A B o) B) B) := ⟨fun k => by
  rw [wp_slLh]
  refine k.mono (fun o g1 k => k.mono (fun x g2 k => ?_) fun _ _ z => z) fun _ _ z => z
  cases x with
  | d x =>
    cases x with
    | int i =>
      refine Wp.mono k (fun y g3 k => ?_) fun _ _ z => z
      cases y with
      | d y => cases y <;> exact k
      | _ => exact k
    | _ => exact k
  | _ => exact k⟩
instance s_slx {mh : M O} {o : O} {i : Int} : Stp (SlxK mh A B o (.d (.int i)) g) (Wp (mh g) (SlyK A o i) B) := ⟨fun k => k⟩
instance s_sly {o : O} {i j : Int} : Stp (SlyK A o i (.d (.int j)) g) (optW (slB o (some i) (some j)) fun r => A r g) := ⟨fun k => k⟩
instance gr_exc : GrC (.exc c fs) := ⟨rfl⟩
end
end Z
namespace ZpL
open PySem PyProof.Rows RZ
section
variable {prog : Program} {w : World} {A : Around} {E : Value → Shared → Prop} {s : Shared}
theorem item_held {z TI TO T i1 i2 l1 l2 : Addr} {f : Bool} {oT : Obj} {k1 k2 : Nat} {xs ys : Array Value} {x y : Value} {Q : Value → Shared → Prop} (D : ZipApart z TI TO i1 i2 l1 l2)
    (hz : IsZipHeld s.heap z TI TO T f) (hT : s.heap.get? T = some oT) (hTI : IsPair s.heap TI (.ref i1) (.ref i2))
    (h1 : s.heap.IsTupleIter i1 l1 k1) (h2 : s.heap.IsTupleIter i2 l2 k2) (hl1 : s.heap.IsTuple l1 xs) (hl2 : s.heap.IsTuple l2 ys) (hx : xs[k1]? = some x) (hy : ys[k2]? = some y)
    (hQ : ∀ h', IsZipHeld h' z TI TO T true → h'.IsTupleIter i1 l1 (k1 + 1) → h'.IsTupleIter i2 l2 (k2 + 1) → IsPair h' s.heap.objs.size x y → h'.objs.size = s.heap.objs.size + 1 →
      (∀ c o, c ≠ z → c ≠ i1 → c ≠ i2 → s.heap.get? c = some o → h'.get? c = some o) → Q (.ref s.heap.objs.size) { s with heap := h' }) :
    wpAny (model prog w) A (Builtin.«zip.__next__» ⟨[.ref z], []⟩) (fun fin s' => ∃ v, fin = .done (.ret v) ∧ Q v s') E s := by
  show wpAny _ _ (field (.ref z) 2 >>= _) _ _ _
  refine wpAny_bind (wpAny_field hz rfl (x := .bool false) rfl ?_)
  show wpAny _ _ (field (.ref z) 3 >>= _) _ _ _
  refine wpAny_bind (wpAny_field hz rfl (x := .ref TI) rfl ?_)
  refine wpAny_bind (wpAny_seqItems hTI rfl ?_)
  show wpAny _ _ (Builtin.SmallTypes.ownedTupleIsFree (.ref z) >>= _) _ _ _
  refine wpAny_bind (wpAny_tupleHeld_zip hz hT fun h₁ hz₁ hs₁ => ?_)
  simp only [Bool.false_eq_true, if_false]
  refine wpAny_bind ?_
  rw [← Array.forIn_toList]
  simp only [List.forIn_cons, List.forIn_nil]
  refine wpAny_bind (wpAny_bind (wpAny_holding ?_))
  show wpAny _ _ (Builtin.SmallTypes.nextOf (.ref i1) >>= _) _ _ _
  refine wpAny_bind (nextOf_tuple_item (s := { s with heap := h₁ }) (h1.extBut hs₁.extBut D.i1z) (hl1.extBut hs₁.extBut D.l1z) hx fun h₂ h1₂ hs₂ => wpAny_pure ?_)
  refine wpAny_pure ?_
  refine wpAny_bind (wpAny_bind (wpAny_holding ?_))
  show wpAny _ _ (Builtin.SmallTypes.nextOf (.ref i2) >>= _) _ _ _
  refine wpAny_bind (nextOf_tuple_item (s := { s with heap := h₂ }) ((h2.extBut hs₁.extBut D.i2z).extBut hs₂.extBut D.i12.symm) ((hl2.extBut hs₁.extBut D.l2z).extBut hs₂.extBut D.l2i1) hy fun h₃ h2₃ hs₃ => wpAny_pure ?_)
  refine wpAny_pure (wpAny_pure ?_)
  show wpAny _ _ (newTuple [x, y] >>= _) _ _ _
  refine wpAny_bind (wpAny_newTuple ?_)
  have hsz : h₃.objs.size = s.heap.objs.size := by rw [hs₃.1, hs₂.1, hs₁.1]
  have hz₃ : IsZipHeld h₃ z TI TO T true := hs₃.extBut _ _ D.i2z.symm (hs₂.extBut _ _ D.i1z.symm hz₁)
  have hk : ∀ c o, c ≠ z → c ≠ i1 → c ≠ i2 → s.heap.get? c = some o → h₃.get? c = some o := fun c o c1 c2 c3 e => hs₃.extBut _ _ c3 (hs₂.extBut _ _ c2 (hs₁.extBut _ _ c1 e))
  have h1₃ : h₃.IsTupleIter i1 l1 (k1 + 1) := h1₂.extBut hs₃.extBut D.i12
  refine wpAny_pure ⟨_, rfl, ?_⟩
  show Q (.ref h₃.objs.size) _
  have hp : IsPair (h₃.push { cls := .type "tuple", data := .seq #[x, y] }) h₃.objs.size x y := Heap.get?_push_size _ rfl
  have hz4 : (h₃.push { cls := .type "tuple", data := .seq #[x, y] }).objs.size = h₃.objs.size + 1 := Heap.size_push ..
  rw [hsz] at hp hz4 ⊢
  exact hQ _ (Heap.get?_push_of_some _ hz₃) (h1₃.at fun o e => Heap.get?_push_of_some _ e) (h2₃.at fun o e => Heap.get?_push_of_some _ e) hp hz4 fun c o c1 c2 c3 e => Heap.get?_push_of_some _ (hk c o c1 c2 c3 e)
theorem end_held {z TI TO T i1 i2 l1 l2 : Addr} {f : Bool} {oT : Obj} {k1 k2 : Nat} {xs ys : Array Value} {Q : Fin → Shared → Prop} (hh : A.handled = none) (D : ZipApart z TI TO i1 i2 l1 l2)
    (hz : IsZipHeld s.heap z TI TO T f) (hT : s.heap.get? T = some oT) (hTI : IsPair s.heap TI (.ref i1) (.ref i2))
    (h1 : s.heap.IsTupleIter i1 l1 k1) (h2 : s.heap.IsTupleIter i2 l2 k2) (hl1 : s.heap.IsTuple l1 xs) (hl2 : s.heap.IsTuple l2 ys) (hend : xs[k1]? = none ∨ ys[k2]? = none)
    (hE : ∀ h' e, (∀ c o, c ≠ z → c ≠ i1 → c ≠ i2 → s.heap.get? c = some o → h'.get? c = some o) → (∃ o, h'.get? e = some o ∧ o.cls = .type "StopIteration") → E (.ref e) { s with heap := h' }) :
    wpAny (model prog w) A (Builtin.«zip.__next__» ⟨[.ref z], []⟩) Q E s := by
  show wpAny _ _ (field (.ref z) 2 >>= _) _ _ _
  refine wpAny_bind (wpAny_field hz rfl (x := .bool false) rfl ?_)
  show wpAny _ _ (field (.ref z) 3 >>= _) _ _ _
  refine wpAny_bind (wpAny_field hz rfl (x := .ref TI) rfl ?_)
  refine wpAny_bind (wpAny_seqItems hTI rfl ?_)
  show wpAny _ _ (Builtin.SmallTypes.ownedTupleIsFree (.ref z) >>= _) _ _ _
  refine wpAny_bind (wpAny_tupleHeld_zip hz hT fun h₁ hz₁ hs₁ => ?_)
  simp only [Bool.false_eq_true, if_false]
  refine wpAny_bind ?_
  rw [← Array.forIn_toList]
  simp only [List.forIn_cons, List.forIn_nil]
  refine wpAny_bind (wpAny_bind (wpAny_holding ?_))
  show wpAny _ _ (Builtin.SmallTypes.nextOf (.ref i1) >>= _) _ _ _
  cases hx : xs[k1]? with
  | none =>
    refine wpAny_bind (nextOf_tuple_end (s := { s with heap := h₁ }) hh (h1.extBut hs₁.extBut D.i1z) (hl1.extBut hs₁.extBut D.l1z) hx fun h₂ e hs₂ he => ?_)
    exact hE h₂ e (fun c o c1 c2 _ x => hs₂ _ _ c2 (hs₁.extBut _ _ c1 x)) he
  | some x =>
    have hy : ys[k2]? = none := by rcases hend with h | h; rw [hx] at h; cases h; exact h
    refine wpAny_bind (nextOf_tuple_item (s := { s with heap := h₁ }) (h1.extBut hs₁.extBut D.i1z) (hl1.extBut hs₁.extBut D.l1z) hx fun h₂ h1₂ hs₂ => wpAny_pure ?_)
    refine wpAny_pure ?_
    refine wpAny_bind (wpAny_bind (wpAny_holding ?_))
    show wpAny _ _ (Builtin.SmallTypes.nextOf (.ref i2) >>= _) _ _ _
    refine wpAny_bind (nextOf_tuple_end (s := { s with heap := h₂ }) hh ((h2.extBut hs₁.extBut D.i2z).extBut hs₂.extBut D.i12.symm) ((hl2.extBut hs₁.extBut D.l2z).extBut hs₂.extBut D.l2i1) hy fun h₃ e hs₃ he => ?_)
    exact hE h₃ e (fun c o c1 c2 c3 x => hs₃ _ _ c3 (hs₂.extBut _ _ c2 (hs₁.extBut _ _ c1 x))) he
theorem pyItem_held {z TI TO T i1 i2 l1 l2 : Addr} {f : Bool} {oT : Obj} {k1 k2 : Nat} {xs ys : Array Value} {x y : Value} {Q : Option Value → Shared → Prop} (D : ZipApart z TI TO i1 i2 l1 l2)
    (hz : IsZipHeld s.heap z TI TO T f) (hT : s.heap.get? T = some oT) (hTI : IsPair s.heap TI (.ref i1) (.ref i2))
    (h1 : s.heap.IsTupleIter i1 l1 k1) (h2 : s.heap.IsTupleIter i2 l2 k2) (hl1 : s.heap.IsTuple l1 xs) (hl2 : s.heap.IsTuple l2 ys) (hx : xs[k1]? = some x) (hy : ys[k2]? = some y)
    (hQ : ∀ h', IsZipHeld h' z TI TO T true → h'.IsTupleIter i1 l1 (k1 + 1) → h'.IsTupleIter i2 l2 (k2 + 1) → IsPair h' s.heap.objs.size x y → h'.objs.size = s.heap.objs.size + 1 →
      (∀ c o, c ≠ z → c ≠ i1 → c ≠ i2 → s.heap.get? c = some o → h'.get? c = some o) → Q (some (.ref s.heap.objs.size)) { s with heap := h' }) :
    wpAny (model prog w) A (pyNext (.ref z)) Q E s := by
  have hTy : s.TypeIs (.ref z) "zip" := ⟨_, hz, rfl⟩
  unfold pyNext
  exact wpAny_bind (wpAny_attempt (wpAny_callSpecial?_slot (name := Str.ofString "__next__") hTy F.slot_zip_next
    (wpAny_call_entry F.slot_zip_next hTy F.entry_zip_next
      (item_held D hz hT hTI h1 h2 hl1 hl2 hx hy fun h' a1 a3 a4 a5 a6 a7 => wpAny_pure (hQ h' a1 a3 a4 a5 a6 a7)) (F.args_zip_next_1 _))))
theorem pyEnd_held {z TI TO T i1 i2 l1 l2 : Addr} {f : Bool} {oT : Obj} {k1 k2 : Nat} {xs ys : Array Value} {Q : Option Value → Shared → Prop} (hh : A.handled = none) (D : ZipApart z TI TO i1 i2 l1 l2)
    (hz : IsZipHeld s.heap z TI TO T f) (hT : s.heap.get? T = some oT) (hTI : IsPair s.heap TI (.ref i1) (.ref i2))
    (h1 : s.heap.IsTupleIter i1 l1 k1) (h2 : s.heap.IsTupleIter i2 l2 k2) (hl1 : s.heap.IsTuple l1 xs) (hl2 : s.heap.IsTuple l2 ys) (hend : xs[k1]? = none ∨ ys[k2]? = none)
    (hQ : ∀ h', (∀ c o, c ≠ z → c ≠ i1 → c ≠ i2 → s.heap.get? c = some o → h'.get? c = some o) → Q none { s with heap := h' }) : wpAny (model prog w) A (pyNext (.ref z)) Q E s := by
  have hTy : s.TypeIs (.ref z) "zip" := ⟨_, hz, rfl⟩
  unfold pyNext
  refine wpAny_bind (wpAny_attempt (wpAny_callSpecial?_slot (name := Str.ofString "__next__") hTy F.slot_zip_next
    (wpAny_call_entry F.slot_zip_next hTy F.entry_zip_next (end_held hh D hz hT hTI h1 h2 hl1 hl2 hend fun h' e hk he => ?_) (F.args_zip_next_1 _))))
  obtain ⟨o, ho, hc⟩ := he
  refine wpAny_bind (wpAny_isInstance (T := "StopIteration") (b := true) ⟨o, ho, hc⟩ isSubtype_stop ?_)
  exact wpAny_pure (hQ _ hk)
end
/-- a zip object of two tuples that has told i pairs -/
structure St (z TI TO i1 i2 l1 l2 : Addr) (xs ys : Array Value) (S : Addr) (h : Heap) (i : Nat) : Prop where
  hTI : IsPair h TI (.ref i1) (.ref i2)
  h1 : h.IsTupleIter i1 l1 i
  h2 : h.IsTupleIter i2 l2 i
  t1 : h.IsTuple l1 xs
  t2 : h.IsTuple l2 ys
  hz : (IsZip h z TI TO .none ∧ ∃ a b, IsPair h TO a b) ∨ ∃ T f oT, IsZipHeld h z TI TO T f ∧ h.get? T = some oT ∧ T ≠ z ∧ T ≠ i1 ∧ T ≠ i2 ∧ T ≠ S
section
variable {prog : Program} {w : World} {A : Around} {E : Value → Shared → Prop} {s : Shared} {z TI TO i1 i2 l1 l2 S : Addr} {xs ys : Array Value} {i : Nat} {Q : Option Value → Shared → Prop}
theorem next (D : ZipApart z TI TO i1 i2 l1 l2) (hS : S < s.heap.objs.size) (st : St z TI TO i1 i2 l1 l2 xs ys S s.heap i) (hx : i < xs.size) (hy : i < ys.size)
    (hQ : ∀ h' tk, St z TI TO i1 i2 l1 l2 xs ys S h' (i + 1) → h'.get? s.heap.objs.size = some { cls := .type "tuple", data := .seq #[xs[i], ys[i]] } → h'.objs.size = s.heap.objs.size + 1 →
      (∀ b o, b ≠ z → b ≠ TO → b ≠ i1 → b ≠ i2 → s.heap.get? b = some o → h'.get? b = some o) → Q (some (.ref s.heap.objs.size)) { s with heap := h', toks := tk }) : wpAny (model prog w) A (pyNext (.ref z)) Q E s := by
  have ex := Array.getElem?_eq_getElem hx
  have ey := Array.getElem?_eq_getElem hy
  have lt : ∀ {c o}, s.heap.get? c = some o → s.heap.objs.size ≠ c := fun e => Nat.ne_of_gt (Heap.lt_size e)
  have n1 : s.heap.objs.size ≠ i1 := let ⟨_, e, _⟩ := st.h1; lt e
  have n2 : s.heap.objs.size ≠ i2 := let ⟨_, e, _⟩ := st.h2; lt e
  rcases st.hz with ⟨hz, a, b, hTO⟩ | ⟨T, f, oT, hz, hT, r1, r2, r3, r4⟩
  · refine pyNext_zipT_item D hz st.hTI hTO st.h1 st.h2 st.t1 st.t2 ex ey fun h' a1 a2 a3 a4 a5 a6 hk => ?_
    exact hQ h' s.toks ⟨hk _ _ D.TIz D.TITO D.TIi1 D.TIi2 st.hTI, a3, a4, st.t1.at fun o e => hk _ o D.l1z D.l1TO D.l1i1 D.l1i2 e, st.t2.at fun o e => hk _ o D.l2z D.l2TO D.l2i1 D.l2i2 e,
      .inr ⟨s.heap.objs.size, false, _, a1, a5, lt hz, n1, n2, Nat.ne_of_gt hS⟩⟩ a5 a6 fun c o c1 c2 c3 c4 e => hk c o c1 c2 c3 c4 e
  · refine pyItem_held D hz hT st.hTI st.h1 st.h2 st.t1 st.t2 ex ey fun h' a1 a3 a4 a5 a6 hk => ?_
    exact hQ h' s.toks ⟨hk _ _ D.TIz D.TIi1 D.TIi2 st.hTI, a3, a4, st.t1.at fun o e => hk _ o D.l1z D.l1i1 D.l1i2 e, st.t2.at fun o e => hk _ o D.l2z D.l2i1 D.l2i2 e,
      .inr ⟨T, true, oT, a1, hk _ _ r1 r2 r3 hT, r1, r2, r3, r4⟩⟩ a5 a6 fun c o c1 _ c3 c4 e => hk c o c1 c3 c4 e
theorem fin (D : ZipApart z TI TO i1 i2 l1 l2) (hh : A.handled = none) (st : St z TI TO i1 i2 l1 l2 xs ys S s.heap i) (hend : xs[i]? = none ∨ ys[i]? = none) (hQ : ∀ h', (∀ b o, b ≠ z → b ≠ TO → b ≠ i1 → b ≠ i2 → s.heap.get? b = some o → h'.get? b = some o) → Q none { s with heap := h' }) : wpAny (model prog w) A (pyNext (.ref z)) Q E s := by
  rcases st.hz with ⟨hz, a, b, hTO⟩ | ⟨T, f, oT, hz, hT, r1, r2, r3, r4⟩
  · exact pyNext_zipT_end hh D hz st.hTI hTO st.h1 st.h2 st.t1 st.t2 hend fun h' hk => hQ h' fun c o c1 c2 c3 c4 e => hk c o c1 c2 c3 c4 e
  · exact pyEnd_held hh D hz hT st.hTI st.h1 st.h2 st.t1 st.t2 hend fun h' hk => hQ h' fun c o c1 _ c3 c4 e => hk c o c1 c3 c4 e
end
end ZpL
namespace Z
open PySem PySem.Spec L2
end Z
namespace Z
open PySem PySem.Spec PyProof.Rows L2
end Z
namespace Z
open PySem PySem.Spec L2
end Z
namespace Z
open PySem PySem.Spec L2
def gAll : List (Key × O) → Option (List (Key × PyData))
  | [] => some []
  | (k, .d x) :: r => match gAll r with | some t => some ((k, x) :: t) | none => none
  | _ :: _ => none
theorem gAll_map : ∀ {kos : List (Key × O)} {kds : List (Key × PyData)}, gAll kos = some kds → kos = kds.map fun p => (p.1, O.d p.2)
  | [], kds, h => by simp only [gAll, Option.some.injEq] at h; subst h; rfl
  | (k, o) :: r, kds, h => by
    cases o with
    | d x =>
      simp only [gAll] at h
      cases q : gAll r with
      | none => rw [q] at h; cases h
      | some t => rw [q] at h; cases h; rw [List.map_cons, ← gAll_map q]
    | _ => simp [gAll] at h
section
variable {K : PySem.W.Frag} {mg : Str → Option Value} {H : Hp} {Ex : List (Addr × HO)} {rs ws : Roots} {v : V} {kds : List (Key × PyData)}
theorem Rel.lockK (r : Rel K mg H Ex ((v, .dK (kds.map fun p => (p.1, O.d p.2))) :: rs) ws) :
    ∃ ad kvs, v = .ref ad ∧ H ad = some (.dK kvs) ∧ kvs.map (·.1) = kds.map (·.1) ∧ ∀ od, Rel K mg (upd H ad (.frz od (.dK kvs))) Ex ((v, .gK kds) :: (v, .pin (.frz od (.dK kvs))) :: rs) [] := by
  obtain ⟨Hf, as, s, he, ho, nd, hn, hw⟩ := r.ex
  cases ho with
  | cons h t =>
    rename_i a1 a2
    cases h with
    | dK q kq tq =>
      rename_i ad kvs cs
      have hk : kvs.map (·.1) = kds.map (·.1) := by rw [kq.1]; simp [List.map_map, Function.comp_def]
      refine ⟨ad, kvs, rfl, q, hk, fun od => ?_⟩
      have adn := hn ad (by simp)
      have nd2 : ad ∉ Ex.map (·.1) ∧ ad ∉ a2 := by
        have hp : (Ex.map (·.1) ++ (ad :: cs ++ a2)).Perm (ad :: (Ex.map (·.1) ++ (cs ++ a2))) := by
          rw [List.cons_append]
          exact List.perm_middle
        have := (List.nodup_cons.mp (hp.nodup_iff.mp nd)).1
        exact ⟨fun m => this (List.mem_append_left _ m), fun m => this (List.mem_append_right _ (List.mem_append_right _ m))⟩
      have sub : (Ex.map (·.1) ++ a2).Sublist (Ex.map (·.1) ++ (ad :: cs ++ a2)) := (List.sublist_append_right _ _).append_left _
      have hne : ∀ a ∈ Ex.map (·.1) ++ a2, a ≠ ad := fun a m z => by
        subst z
        rcases List.mem_append.mp m with m | m
        · exact nd2.1 m
        · exact nd2.2 m
      have s1 : Hf.le ⟨upd Hf.h ad (.frz od (.dK kvs)), Hf.m⟩ := ⟨fun b o e => by
        show upd Hf.h ad (.frz od (.dK kvs)) b = some o
        rw [upd_ne (fun z => by rw [z, adn.1.1] at e; cases e)]; exact e, fun _ _ h => h⟩
      have s2 : Fz.on K ⟨upd Hf.h ad (.frz od (.dK kvs)), Hf.m⟩ (upd H ad (.frz od (.dK kvs))) := ⟨fun b o e => by
        have e : upd Hf.h ad (.frz od (.dK kvs)) b = some o := e
        by_cases z : b = ad
        · subst z; rw [upd_same] at e ⊢; exact e
        · rw [upd_ne z] at e ⊢; exact s b o e, fun a g e => by
        have e : Hf.m a = some g := e
        obtain ⟨h1, kvs', h2, h3⟩ := s.mem a g e
        have z : a ≠ ad := fun z => by rw [z, adn.1.2] at e; cases e
        refine ⟨?_, kvs', ?_, memMono s1.h h3⟩
        · show upd Hf.h ad (.frz od (.dK kvs)) a = none
          rw [upd_ne z]; exact h1
        · rw [upd_ne z]; exact h2⟩
      have hv : DpAll K Hf.h (kvs.map (·.2)) (kds.map (·.2)) := by
        have e : (kds.map fun p => (p.1, O.d p.2)).map (·.2) = (kds.map (·.2)).map O.d := by simp [List.map_map, Function.comp_def]
        rw [e] at tq
        exact owAllD0 tq (allD_map _)
      refine ⟨⟨upd Hf.h ad (.frz od (.dK kvs)), Hf.m⟩, a2, s2, fun p m => ?_, .cons (as := []) (.gK upd_same hk (dpAllMono s1.h hv)) (.cons (as := []) (.pin upd_same) (owLMono s1 t fun a m => upd_ne (hne a (List.mem_append_right _ m)))), nd.sublist sub, fun a m => ⟨?_, fun xs e => ?_⟩, fun _ h => nomatch h⟩
      · rw [upd_ne (hne _ (List.mem_append_left _ (List.mem_map.mpr ⟨p, m, rfl⟩)))]
        exact he p m
      · refine ⟨?_, (hn a (sub.subset m)).1.2⟩
        show upd Hf.h ad (.frz od (.dK kvs)) a = none
        rw [upd_ne (hne a m)]
        exact (hn a (sub.subset m)).1.1
      · rw [upd_ne (hne a m)] at e
        exact (hn a (sub.subset m)).2 xs e
theorem Rel.dupK (r : Rel K mg H Ex ((v, .gK kds) :: rs) ws) : Rel K mg H Ex ((v, .gK kds) :: (v, .gK kds) :: rs) ws := by
  obtain ⟨Hf, as, s, he, ho, nd, hn, hw⟩ := r.ex
  cases ho with
  | cons h t =>
    cases h with
    | gK h1 h2 h3 => exact ⟨Hf, _, s, he, .cons (.gK h1 h2 h3) (.cons (.gK h1 h2 h3) t), nd, hn, hw⟩
/-- the values of a locked dict are had -/
theorem Rel.valsK (r : Rel K mg H Ex ((v, .gK kds) :: rs) ws) :
    ∃ ad o kvs, v = .ref ad ∧ H ad = some (.frz o (.dK kvs)) ∧ kvs.map (·.1) = kds.map (·.1) ∧ kvs.length = kds.length ∧ Rel K mg H Ex ((kvs.map (·.2)).zip ((kds.map (·.2)).map O.d) ++ rs) ws := by
  obtain ⟨Hf, as, s, he, ho, nd, hn, hw⟩ := r.ex
  cases ho with
  | cons h t =>
    cases h with
    | gK h1 h2 h3 =>
      rename_i ad o kvs
      have hl : kvs.length = kds.length := by have := congrArg List.length h2; simpa using this
      have main : ∀ {vs : List V} {ds : List PyData} {rs : Roots} {as : List Addr}, DpAll K Hf.h vs ds → OwL K mg Hf H (rs.map (·.1)) (rs.map (·.2)) as → OwL K mg Hf H ((vs.zip (ds.map O.d) ++ rs).map (·.1)) ((vs.zip (ds.map O.d) ++ rs).map (·.2)) as := by
        intro vs ds rs as h
        induction vs generalizing ds with
        | nil => cases h; exact fun q => q
        | cons x vs ih =>
          cases h with
          | cons a b => exact fun q => .cons (as := []) (.d a) (ih b q)
      exact ⟨ad, o, kvs, rfl, s _ _ h1, h2, hl, Hf, _, s, he, main h3 t, nd, hn, hw⟩
end
def lkO1 : O → Option O
  | .dK kos => (gAll kos).map O.gK
  | .dT kos => (gdOf kos).map O.gD
  | .gK kds => some (.gK kds)
  | .gD kds => some (.gD kds)
  | _ => none
def lkVM (m : M O) : M O := M.bd m fun o g => match lkO1 o with
  | some y => .ok y g
  | none => .bad
section
variable {X : Cx} {W : WX} {pu : Bool} {H H' : Hp} {Ex : List (Addr × HO)} {σ : L2.St} {g : Gs} {T ws rs : Roots} {e : Expr} {m : M O} {mp : M Pth} {v : V} {o : O}
/-- locking, at the level of roots -/
theorem Rel.lock1 {K : PySem.W.Frag} {mg : Str → Option Value} {x y : O} (r : Rel K mg H Ex ((v, x) :: rs) ws) (h : lkO1 x = some y) :
    (∃ d u, v = .ref d ∧ H d = some u ∧ Mut (some u) ∧ ∀ od, Rel K mg (upd H d (.frz od u)) Ex ((v, y) :: (v, y) :: rs) []) ∨ Rel K mg H Ex ((v, y) :: (v, y) :: rs) [] := by
  unfold lkO1 at h
  split at h
  · rename_i kos
    cases q : gAll kos with
    | none => rw [q] at h; cases h
    | some kds =>
      rw [q] at h
      cases h
      have := gAll_map q
      subst this
      obtain ⟨ad, kvs, e1, e2, hk, hL⟩ := r.lockK
      exact .inl ⟨ad, .dK kvs, e1, e2, trivial, fun od => ((hL od).perm (.swap _ _ _)).drop.dupK⟩
  · rename_i kos
    cases q : gdOf kos with
    | none => rw [q] at h; cases h
    | some kds =>
      rw [q] at h
      cases h
      have := gdOf_map q
      subst this
      obtain ⟨ad, kvs, e1, e2, hk, hL⟩ := r.lockD
      exact .inl ⟨ad, .dT kvs, e1, e2, trivial, fun od => ((hL od).perm (.swap _ _ _)).drop.dupG⟩
  · cases h; exact .inr r.noviews.dupK
  · cases h; exact .inr r.noviews.dupG
  · cases h
theorem ev_lkV (h : Ev X W pu e m) : Ev X W false e (lkVM m) := by
  obtain ⟨t, h1, h2⟩ := h.ex
  refine ⟨_, pe_lk h1, fun σ H Q g T Ex ws a w => ?_⟩
  refine h2 σ H _ g T Ex ws a (w.bd.imp (fun o g' k v H' s a' => ?_) fun _ _ k => k)
  split at k
  · rename_i y hy
    rcases a'.top.lock1 hy with ⟨d, u, e1, e2, mu, hL⟩ | r3
    · exact .inl ⟨d, u, e1, e2, mu, fun od => k _ _ (fun z => by cases z) (.ofTop a'.fit ((hL od).drop))⟩
    · exact .inr (k _ _ (fun z => by cases z) (.ofTop a'.fit r3.drop))
  · exact k.elim
end
end Z
namespace L2.DX
open PySem PySem.Spec PyProof.Rows
section
variable {X : Cx}
/-- d.update(e), both with ints and texts as keys -/
def rUpdK : V → List V → Hp → VK → Prop := fun x xs H Q => ∃ (a b : Addr) (kvs more : List (Key × V)), x = .ref a ∧ xs = [.ref b] ∧ a ≠ b ∧ H a = some (.dK kvs) ∧ Rd H b (.dK more) ∧
  kvs.length + more.length ≤ sizeLine ∧ Q .non (upd H a (.dK (mergeK kvs more)))
theorem mt_updK : MtR X "dict.update" rUpdK := by
  intro pins s σ H x xs v us Q I rx rxs h
  obtain ⟨a, b, kvs, more, rfl, rfl, ne, ha, hb, hz, q2⟩ := h
  cases rx
  obtain ⟨u1, rfl, r1⟩ := vals1 rxs
  cases r1
  obtain ⟨z, hd, vs, rel, dd⟩ := dk_of I.hok ha
  obtain ⟨z2, hd2, vs2, rel2, dd2⟩ := dk_rd I.hok hb
  refine call_meetsIn PySem.F.slot_dict_update dd.typeIs PySem.F.entry_dict_update (PySem.F.args_dict_update_2 _ _) (meets_dict_update (mixKind X.prog X.w) a b ne hd2)
    ⟨vs, vs2, dd, dd2, by rw [← rel.length, ← rel2.length]; exact hz, fun h' d1 _ hs => ?_⟩
  have he : ∃ q, h'.get? a = some q := let ⟨q, _, _, hq, _⟩ := d1; ⟨q, hq⟩
  have I2 : Inv X pins σ (upd H a (.dK (mergeK kvs more))) { s with heap := h' } :=
    d_write I (by rw [ha]; exact True.intro) hs he (dk_new (Nat.le_trans (length_mergeK more kvs) hz) hd (rel2.merge rel) d1)
  show EP X pins σ Q .none _
  exact ⟨.non, _, I2, rfl, q2⟩
end
end L2.DX
namespace Z
open PySem PySem.Spec L2
def putAll (kos : List (Key × O)) (mds : List (Key × PyData)) : List (Key × O) := mds.foldl (fun acc p => putD acc p.1 (.d p.2)) kos
theorem updUpd {H : Hp} {a : Addr} {u u' : HO} : upd (upd H a u) a u' = upd H a u' := by
  funext b
  by_cases e : b = a
  · rw [e, upd_same, upd_same]
  · rw [upd_ne e, upd_ne e, upd_ne e]
theorem Rel.mergeK {K : PySem.W.Frag} {mg : Str → Option Value} {Ex : List (Addr × HO)} {rs : Roots} {w : V} : ∀ {more : List (Key × V)} {mds : List (Key × PyData)} {kos : List (Key × O)} {H : Hp} {ws : Roots}, more.map (·.1) = mds.map (·.1) →
    Rel K mg H Ex ((w, .dK kos) :: ((more.map (·.2)).zip ((mds.map (·.2)).map O.d) ++ rs)) ws →
    ∃ ad kvs, w = .ref ad ∧ H ad = some (.dK kvs) ∧ kvs.length = kos.length ∧ Rel K mg (upd H ad (.dK (L2.mergeK kvs more))) Ex ((w, .dK (putAll kos mds)) :: rs) []
  | [], [], kos, H, ws, _, r => by
    obtain ⟨ad, ho, vs, os1, e1, e2, p, hl, r2⟩ := r.opn rfl
    cases p with
    | dK hk =>
      rename_i kvs
      refine ⟨ad, kvs, e1, e2, by have := congrArg List.length hk.1; simpa using this, ?_⟩
      have e : upd H ad (.dK (L2.mergeK kvs [])) = H := by
        funext b
        by_cases z : b = ad
        · rw [z, upd_same, e2]; rfl
        · rw [upd_ne z]
      rw [e]
      exact r.noviews
  | p :: more, q :: mds, kos, H, ws, hk, r => by
    have h1 : p.1 = q.1 := by simpa using congrArg List.head? hk
    have h2 : more.map (·.1) = mds.map (·.1) := by simpa using congrArg List.tail hk
    have r1 : Rel K mg H Ex ((w, .dK kos) :: (p.2, .d q.2) :: ((more.map (·.2)).zip ((mds.map (·.2)).map O.d) ++ rs)) ws := r
    obtain ⟨ad, kvs, e1, e2, e3, r2⟩ := r1.putK (key := q.1)
    obtain ⟨ad', kvs', e4, e5, e6, r3⟩ := Rel.mergeK h2 r2
    rw [e1] at e4
    cases e4
    rw [upd_same] at e5
    cases e5
    rw [updUpd] at r3
    refine ⟨ad, kvs, e1, e2, e3, ?_⟩
    have : L2.mergeK kvs (p :: more) = L2.mergeK (L2.putK kvs q.1 p.2) more := by
      show L2.mergeK (L2.putK kvs p.1 p.2) more = _
      rw [h1]
    rw [this]
    exact r3
  | [], _ :: _, _, _, _, hk, _ => by cases hk
  | _ :: _, [], _, _, _, hk, _ => by cases hk
def updHM (i : Nat) (mp : M Pth) (me : M O) : M O := M.bd mp fun π g => match getPl g i π with
  | some (.dK kos) => .all fun v => (me (setPl g i π (.hole (adr v)))).bd fun o g2 => match getPl g2 i π, o with
    | some (.hole b), .gK mds => if b = adr v ∧ kos.length + mds.length ≤ 16777216 then .ok (.d .none) (setPl g2 i π (.dK (putAll kos mds))) else .bad
    | _, _ => .bad
  | _ => .bad
section
variable {X : Cx} {W : WX} {pu pv pw : Bool} {H H' : Hp} {Ex : List (Addr × HO)} {σ σ' : L2.St} {g : Gs} {T T' ws ws' rs : Roots} {e a b o lo hi : Expr} {es : List Expr} {m mi : M O} {mp : M Pth} {ms : M (List O)} {pos p p2 apos ap : Pos} {k j np : Nat} {x : Str}
theorem ev_updH {i : Nat} (h : EvO X W i b mp) (ha : Ev X W pu a m) (hbase : attributeBase b "update" X.env (eval b X.env) = eval b X.env := by rfl)
    (hfew : ((backTo pos (starEach [a] X.env)).all (fun x => !x.1) && (backToKw pos (keywordEach [] X.env)).all (fun x => x.1.isSome)
      && decide ([a].length + ([] : List Keyword).length + (if ([] : List Keyword).isEmpty then 0 else 1) < 30)) = true := by rfl)
    (hline : (ap.endLine == pos.line) = true := by rfl) (hst : starEach [a] X.env = (false, eval a X.env) :: starEach [] X.env := by rfl) (hplain : (backTo pos (starEach [] X.env)).any (·.1) = false := by rfl) :
    Ev X W false (.Call (.Attribute b "update" ap) [a] [] pos) (updHM i mp m) := by
  obtain ⟨t, h1, h2⟩ := h.ex
  obtain ⟨u, g1, g2⟩ := ha.ex
  refine ⟨_, pe_bm PySem.F.plainAttrs_dict PySem.F.slot_dict_update PySem.F.type_dict_update L2.DX.mt_updK h1 (pa_cons g1 pa_nil hst) hbase hfew hline hst hplain, fun σ H Q g T Ex ws a0 w => h2 σ H _ g T Ex ws a0 (w.bd.imp (fun π g' k H' v0 w0 x e s hv wk a' hx => ?_) fun _ _ k => k)⟩
  subst e
  split at k
  · rename_i kos hg0
    obtain ⟨bd0, ho0, vs0, os1, e1, e2, p0, hl0⟩ := a'.ho hg0 hv wk rfl
    cases p0 with
    | dK hk0 =>
    rename_i kvs0
    subst e1
    refine ⟨.inr (.inr (.inl ⟨rfl, .inl ⟨_, e2⟩⟩)), ?_⟩
    have k := wp_all.mp k (.ref bd0)
    obtain ⟨Ex', r1, r2, cl⟩ := a'.atPl hg0 hv wk
    have ah : At X H' Ex σ (setPl g' i π (.hole bd0)) ((.ref bd0, .dK kos) :: T) [] := by
      refine (cl H' (.hole bd0) ((.ref bd0, .dK kos) :: T) [] ?_).1
      refine (Rel.hole (ad := bd0) r2.noviews).perm (.cons _ ?_)
      exact (List.perm_middle.symm).trans (List.Perm.append_left _ List.perm_middle.symm)
    refine g2 σ H' _ _ _ Ex [] ah ((Res.wp_bd.mp k).imp (fun o g3 kq y H2 s2 a2 => ?_) fun x g' k H' cls d a' => k H' cls d a'.drop)
    split at kq
    · rename_i bb mds hg
      split at kq
      · rename_i hc
        obtain ⟨hbb, hlen⟩ := hc
        have hbb : bb = bd0 := hbb
        rw [hbb] at hg
        obtain ⟨w2, Ex2, r5, wk2, r6, cl2⟩ := a2.opnP hg hv
        have ew := r6.isHole
        subst ew
        have r7 : Rel X.K X.mg H2 (Ex2 ++ Ex) ((.ref bd0, .dK kos) :: (y, .gK mds) :: (r5 ++ (roots σ (g3.set i none) ++ T))) [] := by
          refine r6.drop.noviews.perm ?_
          refine ((List.Perm.append_left _ ((List.Perm.append_left _ (.swap _ _ _)).trans ((List.perm_middle).trans (.cons _ List.perm_middle))))).trans ?_
          exact List.perm_middle.trans (.cons _ List.perm_middle)
        obtain ⟨ad2, ob, more, f1, f2, f3, f4, r8⟩ := (r7.perm (.swap _ _ _)).valsK
        subst f1
        obtain ⟨ad, kvs, q1, q2, q3, r9⟩ := (r8.perm (List.perm_middle)).mergeK f3
        cases q1
        have ne : bd0 ≠ ad2 := fun z => by rw [z, f2] at q2; cases q2
        refine ⟨bd0, ad2, kvs, more, rfl, rfl, ne, q2, .inr ⟨ob, f2⟩, by rw [q3, f4, sizeLine_eq]; exact hlen, ?_⟩
        obtain ⟨a5, _⟩ := cl2 _ _ _ _ r9
        exact kq _ _ (fun z => by cases z) (a5.data fun _ => .non)
      · exact kq.elim
    · exact kq.elim
  · exact k.elim
end
section
variable {g : Gs} {i : Nat} {A : O → Gs → Prop} {AF : Fl → Gs → Prop} {B : Exn → Gs → Prop} {x y : O} {mp : M Pth} {m : M O}
theorem wp_lkV (h : Wp (m g) (fun o g1 => ∃ y, lkO1 o = some y ∧ A y g1) B) : Wp (lkVM m g) A B := by
  unfold lkVM
  refine (wp_bd (m := m)).mpr (h.mono (fun o g1 q => ?_) fun _ _ z => z)
  obtain ⟨y, h2, h3⟩ := q
  simp only [h2]
  exact h3
end
end Z
namespace Z
open PySem PySem.Spec L2
end Z
namespace Z
open PySem PySem.Spec L2
/-- a field of an instance's fields -/
class FdC (fs : List (Str × O)) (f : Str) (x : outParam O) : Prop where
  eq : ∃ j, fix1 (fs.map (·.1)) f = some j ∧ (fs.map (·.2))[j]? = some x
section
variable {g g' : Gs} {i : Nat} {c f : Str} {fs fs' : List (Str × O)} {o x y z : O} {π : Pth} {A : O → Gs → Prop} {AF : Fl → Gs → Prop} {AD : List PyData → Gs → Prop} {AO : O → Prop} {B : Exn → Gs → Prop} {mp : M Pth} {m : M O} {mf : M Fl}
instance at_ins [h : FdC fs f x] : AtC c f (.ins c fs) x := ⟨by
  obtain ⟨j, h1, h2⟩ := h.eq
  simp only [fldO, if_true, h1, h2]⟩
instance au_ins [h : FdC fs f x] [u : UnfC x y] : AtU c f (.ins c fs) y := ⟨x, by
  obtain ⟨j, h1, h2⟩ := h.eq
  simp only [fldO, if_true, h1, h2], u.eq⟩
def LkVK (A : O → Gs → Prop) (o : O) (g : Gs) : Prop := ∃ y, lkO1 o = some y ∧ A y g
instance s_lkV : Stp (Wp (lkVM m g) A B) (Wp (m g) (LkVK A) B) := ⟨fun h => wp_lkV h⟩
/-- update -/
def UpK (i : Nat) (π : Pth) (kos : List (Key × O)) (a : Addr) (A : O → Gs → Prop) (o : O) (g : Gs) : Prop := ∃ mds, o = .gK mds ∧ getPl g i π = some (.hole a) ∧ kos.length + mds.length ≤ 16777216 ∧ A (.d .none) (setPl g i π (.dK (putAll kos mds)))
def UpP (i : Nat) (m : M O) (A : O → Gs → Prop) (B : Exn → Gs → Prop) (π : Pth) (g : Gs) : Prop := ∃ kos, getPl g i π = some (.dK kos) ∧ ∀ a : Addr, Wp (m (setPl g i π (.hole a))) (UpK i π kos a A) B
instance s_upd : Stp (Wp (updHM i mp m g) A B) (Wp (mp g) (UpP i m A B) B) := ⟨fun h => by
  unfold updHM
  refine (wp_bd (m := mp)).mpr (h.mono (fun π g1 q => ?_) fun _ _ z => z)
  obtain ⟨kos, e, q⟩ := q
  rw [e]
  refine wp_all.mpr fun v => ?_
  refine Res.wp_bd.mpr ((q (adr v)).mono (fun o g2 z => ?_) fun _ _ z => z)
  obtain ⟨mds, rfl, h1, h2, h3⟩ := z
  rw [h1]
  simp only [h2, and_self, if_true]
  exact h3⟩
end
end Z
namespace Z
open PySem PySem.Spec L2
end Z
namespace Z
open PySem PySem.Spec L2
end Z
namespace Z
open PySem PySem.Spec L2
end Z
namespace Z
open PySem PySem.Spec L2
end Z
namespace Z
open PySem PySem.Spec L2
section
variable {X : Cx} {W : WX} {H : Hp} {Ex : List (Addr × HO)} {ws rs : Roots} {pos : Pos} {k : Nat}
theorem mergeK_new : ∀ (l acc : List (Key × V)), (acc.map (·.1) ++ l.map (·.1)).Nodup → mergeK acc l = acc ++ l
  | [], acc, _ => by show acc = _; rw [List.append_nil]
  | p :: r, acc, h => by
    have hp : p.1 ∉ acc.map (·.1) := fun m => (List.nodup_append.mp h).2.2 _ m _ (by simp) rfl
    have e : putK acc p.1 p.2 = acc ++ [p] := by
      unfold putK
      rw [if_neg]
      intro z
      obtain ⟨q, q1, q2⟩ := List.any_eq_true.mp z
      exact hp (List.mem_map.mpr ⟨q, q1, of_decide_eq_true q2⟩)
    show mergeK (putK acc p.1 p.2) r = _
    rw [e, mergeK_new r (acc ++ [p]) (by rw [List.map_append, List.append_assoc]; exact h), List.append_assoc]
    rfl
end
end Z
namespace Z
open PySem PySem.Spec L2
section
variable {X : Cx} {W : WX} {pu pv pw : Bool} {H H' : Hp} {Ex : List (Addr × HO)} {ws rs : Roots} {a : Expr} {m : M O} {pos p p2 : Pos} {x : Str}
def srtXF : List O → Option O
  | [a] => match (match asL a with | some ds => intsOf ds | none => none) with
    | some ns => if ns.length ≤ 4000 then some (.lst ((srtS ns).map fun i => O.d (.int i))) else none
    | none => none
  | _ => none
end
end Z
namespace Z
open PySem PySem.Spec L2
end Z
namespace Z
open PySem PySem.Spec L2
end Z
namespace Z
open PySem PySem.Spec L2
end Z
namespace Z
open PySem PySem.Spec L2
end Z
namespace L2
open PySem PySem.Spec PyProof.Rows Z
end L2
namespace Z
open PySem PySem.Spec L2
end Z
namespace Z
open PySem PySem.Spec L2
end Z
namespace Z
open PySem PySem.Spec L2
end Z
namespace Z
open PySem PySem.Spec L2
structure EvPs (X : Cx) (W : WX) (pos : Pos) (ks : List (Option Expr)) (es : List Expr) (l : List Str) (m : M (List O)) : Prop where
  len : ks.length = l.length ∧ es.length = l.length ∧ ks.all (·.isSome) = true
  ex : ∃ trs, PPs X pos ks es trs ∧ ∀ (σ : L2.St) (H : Hp) (Q : List (V × V) → Hp → Prop) (g : Gs) (T : Roots) (Ex : List (Addr × HO)), At X H Ex σ g T [] →
    Wp (m g) (fun os g' => ∀ vs H', vs.length = os.length → os.length = l.length → At X H' Ex σ g' (vs.zip os ++ T) [] → Q ((l.map V.str).zip vs) H')
      (fun x g' => ∀ H' cls d, At X H' Ex σ g' T [] → ExAt X.mg Ex cls d H' x → W cls d σ H') → tPairs trs σ H Q
def dispVM (l : List Str) (ms : M (List O)) : M O := fun g => (ms g).noX.bd fun os g2 => if os.length = l.length then .ok (.dK ((l.map Sum.inr).zip os)) g2 else .bad
section
variable {X : Cx} {W : WX} {pu : Bool} {pos : Pos} {k : Nat}
theorem evps_nil : EvPs X W pos [] [] [] (M.ret []) := ⟨⟨rfl, rfl, rfl⟩, [], pps_nil, fun σ H Q g T Ex a w => w [] H rfl rfl a⟩
theorem evps_cons {s : Str} {j : Nat} {p : Pos} {ks : List (Option Expr)} {e : Expr} {es : List Expr} {l : List Str} {m : M O} {ms : M (List O)} (h : Ev X W pu e m) (hs : EvPs X W pos ks es l ms) : EvPs X W pos (some (.Constant (.str s) j p) :: ks) (e :: es) (s :: l) (consM m ms) := by
  obtain ⟨t, h1, h2⟩ := h.ex
  obtain ⟨⟨l1, l2, l3⟩, trs, g1, g2⟩ := hs
  refine ⟨⟨by simp [l1], by simp [l2], by rw [List.all_cons, l3]; rfl⟩, _, pps_cons pe_str h1 g1, fun σ H Q g T Ex a w => ?_⟩
  show t σ H _
  refine h2 σ H _ g T Ex [] a (w.bd.imp (fun o g' k v H' s a' => ?_) fun _ _ k => k)
  refine g2 σ H' _ g' _ Ex a'.noV (k.bd.imp (fun os g2 k vs H2 hl hn a2 => ?_) fun x g2 k H2 cls d a2 => k H2 cls d a2.drop)
  exact k (v :: vs) H2 (by simp [hl]) (by simp [hn]) (a2.perm permIn)
theorem zipKV : ∀ (l : List Str) (vs : List V), (l.map V.str).zip vs = (((l.map Sum.inr).zip vs).map fun p : Key × V => (kV p.1, p.2))
  | [], _ => rfl
  | _ :: _, [] => rfl
  | s :: l, v :: vs => by simp only [List.map_cons, List.zip_cons_cons, zipKV l vs]; rfl
theorem ev_dispV {ks : List (Option Expr)} {es : List Expr} {l : List Str} {ms : M (List O)} (h : EvPs X WX0 pos ks es l ms) (nd : l.Nodup := by decide +kernel) (h0 : ks ≠ [] := by simp) (h15 : l.length ≤ 15 := by decide) : Ev X W false (.Dict ks es pos) (dispVM l ms) := by
  obtain ⟨⟨l1, l2, l3⟩, trs, g1, g2⟩ := h
  refine ⟨_, pe_disp g1 l3 (by omega) h0 (by omega), fun σ H Q g T Ex ws a w p hp => ?_⟩
  have a0 : At X (upd H p (.dK [])) ((p, .dK []) :: Ex) σ g T [] := ⟨a.fit, (Rel.new (.dK []) a.rel hp).noviews⟩
  have w1 : Wp (ms g) _ _ := Res.wp_noX.mp (Res.wp_bd.mp w)
  refine g2 σ _ _ g T _ a0 (w1.imp (fun os g' w2 vs H2 hl hn a1 => ?_) fun _ _ z => z.elim)
  rw [if_pos hn] at w2
  have hk1 : (((l.map Sum.inr).zip vs : List (Key × V)).map (·.1)) = l.map Sum.inr := List.map_fst_zip (by simp; omega)
  have hk2 : (((l.map Sum.inr).zip vs : List (Key × V)).map (·.2)) = vs := List.map_snd_zip (by simp; omega)
  have ho1 : (((l.map Sum.inr).zip os : List (Key × O)).map (·.1)) = l.map Sum.inr := List.map_fst_zip (by simp; omega)
  have ho2 : (((l.map Sum.inr).zip os : List (Key × O)).map (·.2)) = os := List.map_snd_zip (by simp; omega)
  have nd2 : (l.map (Sum.inr : Str → Key)).Nodup := by
    unfold List.Nodup at nd ⊢
    rw [List.pairwise_map]
    exact nd.imp fun q z => q (Sum.inr.inj z)
  obtain ⟨Hf, as, sm, hex, _⟩ := a1.rel.ex
  have e1 : H2 p = some (.dK []) := hex _ List.mem_cons_self
  refine ⟨e1, (l.map Sum.inr).zip vs, zipKV l vs, by rw [List.length_zip, List.length_map]; omega, ?_⟩
  rw [mergeK_new _ [] (by rw [List.map_nil, List.nil_append, hk1]; exact nd2), List.nil_append]
  refine w2 _ _ (fun z => by cases z) ?_
  have r4 := (a1.relT (Tk := vs.zip os)).write (.dK ((l.map Sum.inr).zip vs))
  have q : Opn X.mg (.dK ((l.map Sum.inr).zip os)) (.dK ((l.map Sum.inr).zip vs)) (((l.map Sum.inr).zip vs : List (Key × V)).map (·.2)) (((l.map Sum.inr).zip os : List (Key × O)).map (·.2)) := .dK ⟨hk1.trans ho1.symm, by rw [ho1]; exact nd2⟩
  rw [hk2, ho2] at q
  exact .ofTop a1.fit (Rel.shut r4 q hl)
end
section
variable {A : O → Gs → Prop} {B : Exn → Gs → Prop} {g : Gs} {ms : M (List O)} {l : List Str}
def DvK (l : List Str) (A : O → Gs → Prop) (os : List O) (g : Gs) : Prop := os.length = l.length ∧ A (.dK ((l.map Sum.inr).zip os)) g
instance s_dispV : Stp (Wp (dispVM l ms g) A B) (Wp (ms g) (DvK l A) NoB) := ⟨fun h => by
  unfold dispVM
  refine Res.wp_bd.mpr (Res.wp_noX.mpr (h.mono (fun os g1 q => ?_) fun _ _ z => z))
  rw [if_pos q.1]
  exact q.2⟩
end
end Z
namespace Z
open PySem PySem.Spec PySem.W PyProof.Rows L2 PyProof.V
end Z
namespace Z
open PySem PySem.Spec PyProof.Rows L2
end Z
namespace L2
open PySem PySem.Spec PyProof.Rows Z
end L2
namespace Z
open PySem PySem.Spec L2
end Z
namespace L2
open PySem PySem.Spec PyProof.Rows Z
end L2
namespace Z
open PySem PySem.Spec L2
end Z
namespace L2
open PySem PySem.Spec PyProof.Rows Z
end L2
namespace Z
open PySem PySem.Spec L2
end Z
namespace L2
open PySem PySem.Spec PyProof.Rows
end L2
namespace Z
open PySem PySem.Spec L2
end Z
namespace Z
open PySem PySem.Spec L2
end Z
namespace Z
open PySem PySem.Spec L2
def fsAM (i : Nat) (c f : Str) (k : Int) : M Fl := fun g => match g[i]? with
  | some (some (.ins c' fs)) => if c' = c ∧ (fs.map (·.1)).Nodup ∧ fs.length < 1000 then match fldO c f (.ins c' fs) with
    | some (.d (.int n)) => .ok .next (g.set i (some (.ins c' (putD fs f (.d (.int (n + k)))))))
    | _ => .bad else .bad
  | _ => .bad
section
variable {X : Cx} {W : WX} {pu : Bool} {np : Nat} {H : Hp} {Ex : List (Addr × HO)} {σ : L2.St} {g : Gs} {T ws rs : Roots} {e : Expr} {pos apos : Pos}
theorem fldI {K : PySem.W.Frag} {mg : Str → Option Value} {v : V} {c f : Str} {C : Addr} {fs : List (Str × O)} {n : Int} (r : Rel K mg H Ex ((v, .ins c fs) :: rs) ws) (hC : mg c = some (.ref C)) (h : fldO c f (.ins c fs) = some (.d (.int n))) :
    ∃ ad dx fvs, v = .ref ad ∧ H ad = some (.ins C dx fvs) ∧ fvs.lookup f = some (.int n) := by
  obtain ⟨Hf, as, s, he, ho, nd, hn, hw⟩ := r.ex
  have ho : OwL K mg Hf H (v :: List.map Prod.fst rs) (.ins c fs :: List.map Prod.snd rs) as := ho
  obtain ⟨bs, hb⟩ : ∃ bs, Ow K mg Hf H v (.ins c fs) bs := by
    cases ho with
    | cons h t => exact ⟨_, h⟩
  unfold fldO at h
  simp only [if_true] at h
  split at h
  · rename_i j hj
    cases hb with
    | @ins _ ad C' dx _ fvs _ cs q hm hk t =>
      rw [hC] at hm; cases hm
      have hj2 : fix1 (fvs.map (·.1)) f = some j := by rw [hk]; exact hj
      have hlt : j < (fvs.map (·.2)).length := by
        have := (List.getElem?_eq_some_iff.mp (fix1_some hj2).1).1
        simpa using this
      have hu : (fvs.map (·.2))[j]? = some (fvs.map (·.2))[j] := List.getElem?_eq_getElem hlt
      obtain ⟨ds, hd⟩ := owLGetO t hu h
      have e := owI hd
      exact ⟨_, dx, fvs, rfl, q, by rw [look_fix, hj2]; show (fvs.map (·.2))[j]? = _; rw [hu, e]⟩
  · cases h
theorem es_fsA (i : Nat) {c f xn : Str} {pp : Pos} {k : Int} (h : Ev X W pu e (dM (.int k))) (cf : CF X.K X.mg c f) (hN : X.N[i]? = some xn := by rfl) (hv : Vis X.env.scope xn := by first | exact Or.inl rfl | exact Or.inr (Or.inl rfl) | exact Or.inr (Or.inr rfl)) (hdd1 : (xn == ("__debug__" : Str)) = false := by decide) (hcd : (xn == ("__classdict__" : Str)) = false := by decide) :
    EvS X W np (.AugAssign (.Attribute (.Name xn pp) f apos) .Add e pos) (fsAM i c f k) := by
  obtain ⟨t, h1, h2⟩ := h.ex
  obtain ⟨C, hC, hcl, hna⟩ := cf.ex
  refine ⟨_, ps_fldaug (pv i hN hv hdd1 hcd) h1 in_add, fun σ H D g T Ex a w => ?_⟩
  unfold fsAM at w
  split at w
  · rename_i c' fs hg
    split at w
    · rename_i hc
      obtain ⟨rfl, hnd, hlen⟩ := hc
      split at w
      · rename_i n hf
        obtain ⟨v, hv'⟩ := a.fit.at_ _ _ hg
        have r := (a.get hg hv').noviews
        obtain ⟨ad0, dx0, fvs0, e0, q0, l0⟩ := fldI r hC hf
        refine ⟨v, hv', ad0, C, dx0, fvs0, .int n, e0, q0, hcl, hna, l0, ?_⟩
        refine h2 σ H _ g T Ex [] a (fun y H' s a' => ?_)
        obtain rfl := a'.top.isI
        refine ⟨n, k, rfl, rfl, ?_⟩
        have a2 : At X H' Ex σ g ((.int (n + k), .d (.int (n + k))) :: T) [] := .ofTop a'.fit (a'.drop.rel.noviews.data fun _ => .int _)
        have r := (a2.get hg hv').noviews
        obtain ⟨ad, ho, vs, os, e1, e2, p, hl, r2⟩ := r.opn rfl
        cases p with
        | ins hm hk =>
          rename_i C' dx fvs
          rw [hC] at hm; cases hm
          have hl2 : fvs.length = fs.length := by have := congrArg List.length hk; simpa using this
          rw [e1] at e0
          cases e0
          refine ⟨dx, fvs, e2, by omega, ?_⟩
          refine w σ _ .refl ?_
          rw [putF_eq]
          subst e1
          refine .put a2.fit hv' ?_
          have r3 := r2.write (.ins C dx (putD fvs f (.int (n + k))))
          have r4 := Rel.putAt (key := f) hk (r3.perm (List.Perm.append_left _ (List.perm_middle)))
          have hk2 : (putD fvs f (.int (n + k))).map (·.1) = (putD fs f (.d (.int (n + k)))).map (·.1) := (putD_keys ⟨hk, hnd⟩).1
          exact r4.shut (.ins hC hk2) (by have := congrArg List.length hk2; simpa using this)
      · exact w.elim
    · exact w.elim
  · exact w.elim
theorem es_fsS (i : Nat) {c f xn : Str} {pp : Pos} {k : Int} (h : Ev X W pu e (dM (.int k))) (cf : CF X.K X.mg c f) (hN : X.N[i]? = some xn := by rfl) (hv : Vis X.env.scope xn := by first | exact Or.inl rfl | exact Or.inr (Or.inl rfl) | exact Or.inr (Or.inr rfl)) (hdd1 : (xn == ("__debug__" : Str)) = false := by decide) (hcd : (xn == ("__classdict__" : Str)) = false := by decide) :
    EvS X W np (.AugAssign (.Attribute (.Name xn pp) f apos) .Sub e pos) (fsAM i c f (-k)) := by
  obtain ⟨t, h1, h2⟩ := h.ex
  obtain ⟨C, hC, hcl, hna⟩ := cf.ex
  refine ⟨_, ps_fldaug (pv i hN hv hdd1 hcd) h1 in_sub, fun σ H D g T Ex a w => ?_⟩
  unfold fsAM at w
  split at w
  · rename_i c' fs hg
    split at w
    · rename_i hc
      obtain ⟨rfl, hnd, hlen⟩ := hc
      split at w
      · rename_i n hf
        obtain ⟨v, hv'⟩ := a.fit.at_ _ _ hg
        have r := (a.get hg hv').noviews
        obtain ⟨ad0, dx0, fvs0, e0, q0, l0⟩ := fldI r hC hf
        refine ⟨v, hv', ad0, C, dx0, fvs0, .int n, e0, q0, hcl, hna, l0, ?_⟩
        refine h2 σ H _ g T Ex [] a (fun y H' s a' => ?_)
        obtain rfl := a'.top.isI
        refine ⟨n, k, rfl, rfl, ?_⟩
        rw [show n - k = n + -k from Int.sub_eq_add_neg]
        have a2 : At X H' Ex σ g ((.int (n + -k), .d (.int (n + -k))) :: T) [] := .ofTop a'.fit (a'.drop.rel.noviews.data fun _ => .int _)
        have r := (a2.get hg hv').noviews
        obtain ⟨ad, ho, vs, os, e1, e2, p, hl, r2⟩ := r.opn rfl
        cases p with
        | ins hm hk =>
          rename_i C' dx fvs
          rw [hC] at hm; cases hm
          have hl2 : fvs.length = fs.length := by have := congrArg List.length hk; simpa using this
          rw [e1] at e0
          cases e0
          refine ⟨dx, fvs, e2, by omega, ?_⟩
          refine w σ _ .refl ?_
          rw [putF_eq]
          subst e1
          refine .put a2.fit hv' ?_
          have r3 := r2.write (.ins C dx (putD fvs f (.int (n + -k))))
          have r4 := Rel.putAt (key := f) hk (r3.perm (List.Perm.append_left _ (List.perm_middle)))
          have hk2 : (putD fvs f (.int (n + -k))).map (·.1) = (putD fs f (.d (.int (n + -k)))).map (·.1) := (putD_keys ⟨hk, hnd⟩).1
          exact r4.shut (.ins hC hk2) (by have := congrArg List.length hk2; simpa using this)
      · exact w.elim
    · exact w.elim
  · exact w.elim
end
section
variable {AF : Fl → Gs → Prop} {B : Exn → Gs → Prop} {g g' : Gs}
class FsA (c : Str) (fs : List (Str × O)) (f : Str) (k : Int) (fs' : outParam (List (Str × O))) : Prop where
  nd : (fs.map (·.1)).Nodup
  le : fs.length < 1000
  eq : ∃ n, fldO c f (.ins c fs) = some (.d (.int n)) ∧ putD fs f (.d (.int (n + k))) = fs'
instance s_fsA {i : Nat} {c f : Str} {k : Int} {fs fs' : List (Str × O)} [h : Get g i (some (.ins c fs))] [p : FsA c fs f k fs'] [q : Put g i (some (.ins c fs')) g'] : Stp (Wp (fsAM i c f k g) AF B) (AF .next g') := ⟨fun z => by
  obtain ⟨n, e1, e2⟩ := p.eq
  unfold fsAM
  simp only [h.get, p.nd, p.le, and_self, if_true, e1, e2, q.put]
  exact z⟩
end
end Z
namespace L2
open PySem PySem.Spec PyProof.Rows
def EntsOk (w : World) : List DictEntry → List (Str × Int) → Prop
  | [], [] => True
  | e :: es, p :: ps => (e.hash = hashStr w p.1 ∧ (∃ t, e.key = .str p.1 t) ∧ ∃ t, e.val = .int p.2 t) ∧ EntsOk w es ps
  | _, _ => False
def gdK (p : Str × Int) : Key × V := (.inr p.1, .int p.2)
def GDat (K : PySem.W.Frag) (w : World) (f : Addr) (kvs : List (Str × Int)) : Prop := (∃ es ep, K.lookup f = some ⟨.type "dict", none, .dict es ep, #[]⟩ ∧ EntsOk w es.toList kvs) ∧ (f == sysModules) = false ∧ (kvs.map (·.1)).Nodup ∧ kvs.length ≤ 1000
section
variable {X : Cx} {pins : List (Addr × Obj)} {σ : St} {H : Hp} {s : Shared} {f : Addr} {kvs : List (Str × Int)}
theorem ents_read {P : Program} {w : World} : ∀ {es : List DictEntry} {kvs : List (Str × Int)}, EntsOk w es kvs → ∃ vs : List (Key × Value), (∀ e ∈ es, ∃ k, (mixKind P w).is k e.key = true ∧ e.hash = (mixKind P w).hash k) ∧ Pairs (mixKind P w) es vs ∧ KV (kvs.map gdK) vs
  | [], [], _ => ⟨[], (fun e h => by cases h), .nil, .nil⟩
  | [], _ :: _, h => h.elim
  | _ :: _, [], h => h.elim
  | e :: es, p :: ps, ⟨⟨h1, ⟨t, h2⟩, t2, h3⟩, h4⟩ => by
    obtain ⟨vs, a, c, d⟩ := ents_read h4
    have hk : (mixKind P w).is (.inr p.1) e.key = true := by rw [h2]; exact mixKind_str P w p.1 t
    refine ⟨(.inr p.1, e.val) :: vs, fun x hx => ?_, .cons hk rfl c, .cons ⟨rfl, ⟨t2, h3⟩⟩ d⟩
    rcases List.mem_cons.mp hx with rfl | hx
    · exact ⟨.inr p.1, hk, h1⟩
    · exact a x hx
theorem gd_dict (I : Inv X pins σ H s) (h : GDat X.K X.w f kvs) : ∃ vs : List (Key × Value), s.heap.DictOf (mixKind X.prog X.w) f vs ∧ KV (kvs.map gdK) vs := by
  obtain ⟨⟨es, ep, hl, he⟩, _, nd, _⟩ := h
  obtain ⟨vs, a, c, d⟩ := ents_read (P := X.prog) he
  refine ⟨vs, ⟨_, es, ep, I.kIn f _ hl, ⟨rfl, rfl, rfl⟩, rfl, fun e m => a e (Array.mem_toList_iff.mpr m), c, ?_⟩, d⟩
  rw [← KV.keys d, List.map_map]
  have e1 : (kvs.map ((fun p : Key × V => p.1) ∘ gdK)) = (kvs.map (·.1)).map (Sum.inr : Str → Key) := by rw [List.map_map]; rfl
  rw [e1]
  exact List.Pairwise.map _ (fun a b n e => n (Sum.inr.inj e)) nd
theorem gd_val {k : Str} {n : Int} : ∀ {kvs : List (Str × Int)}, kvs.lookup k = some n → valV (kvs.map gdK) (.inr k) = some (.int n)
  | [], h => by cases h
  | (a, m) :: r, h => by
    rw [List.lookup_cons] at h
    unfold valV
    rw [List.map_cons, List.find?_cons]
    by_cases e : k = a
    · subst e
      simp only [beq_self_eq_true, Option.some.injEq] at h
      subst h
      simp [gdK]
    · have : (k == a) = false := beq_eq_false_iff_ne.mpr e
      rw [this] at h
      have ih := gd_val h
      unfold valV at ih
      have e2 : decide ((gdK (a, m)).1 = (.inr k : Key)) = false := decide_eq_false fun q => e (Sum.inr.inj q).symm
      rw [e2]
      exact ih
/-- d[y], d global -/
def tGDx (kvs : List (Str × Int)) (ty : TE) : TE := fun σ H Q => ty σ H fun y H2 => ∃ k n, y = .str k ∧ kvs.lookup k = some n ∧ Q (.int n) H2
theorem pe_gdx {x : Str} {i : Expr} {p pos : Pos} {ty : TE} (hu : X.A.units + 1 < cLine) (hg : Gl X x) (hm : X.mg x = some (.ref f)) (hd : GDat X.K X.w f kvs) (hi : PE X i ty) (hs : NoSl i) (hdb : (x == ("__debug__" : Str)) = false := by decide) : PE X (.Subscript (.Name x p) i pos) (tGDx kvs ty) := by
  refine ⟨fun pins s σ H Q I h => ?_⟩
  refine subD_of PySem.F.slot_dict_getitem.lookup hs (ld_glob I hg hm ?_ hdb)
  refine thn (hi.run pins s σ H _ I h) fun iv s2 ⟨y, H2, I2, ry, k, n, ey, l, q⟩ => ?_
  subst ey
  obtain ⟨vs, dd, rel⟩ := gd_dict I2 hd
  obtain ⟨w', hw, rw'⟩ := RelO.some_of (v := .int n) (o := valueAt vs (.inr k)) (by rw [← gd_val l]; exact rel.val _)
  exact ⟨dd.typeIs, wpAny_getItem_of (kV_is (k := .inr k) ry) dd.mapOf hw ⟨.int n, H2, I2.tok _, rw', q⟩⟩
/-- list(d), d global -/
theorem call_gdl (hc : X.calm = true) (hd : GDat X.K X.w f kvs) : CallR X (.type "list") (fun xs H Q => xs = [V.ref f] ∧ ∀ q, H q = none → Q (.ref q) (upd H q (.lst (kvs.map fun p => V.str p.1)))) := by
  intro pins s σ H xs us Q I r h
  obtain ⟨e, q⟩ := h
  subst e
  obtain ⟨u, eu, rx⟩ := vals1 r
  subst eu
  obtain rfl : u = Value.ref f := rx
  obtain ⟨vs, dd, rel⟩ := gd_dict I hd
  obtain ⟨ep, hat⟩ := dd.dictAt
  have hl : (kvs.map gdK).length = vs.length := Paired.length rel
  have hl2 : kvs.length = vs.length := by rw [← hl, List.length_map]
  have hz : kvs.length ≤ 1000 := hd.2.2.2
  have hs : (1000 : Nat) ≤ sizeLine := by decide
  refine PySem.W.kdl_call (PySem.W.kdl_dict (knd := mixKind X.prog X.w) (kvs := vs) (ep := ep) hd.2.1) (I.ok.hd hc) hat (by omega) fun h' tk acc' c' hk hS ha => ?_
  refine ⟨.ref s.heap.objs.size, upd H s.heap.objs.size (.lst (kvs.map fun p => V.str p.1)), I.laid hk (Nat.le_refl _) (show ObjOk X.prog X.w _ _ _ (.lst (kvs.map fun p => V.str p.1)) from ⟨by rw [List.length_map]; omega, acc'.toList, c', ?_, by rw [Array.toArray_toList]; exact hS⟩), rfl, q _ (I.hok.fresh (Nat.le_refl _))⟩
  have el : acc'.toList.length = vs.length := by rw [Array.length_toList]; exact ha.1
  refine vals_of_at (by rw [List.length_map, el, hl2]) fun j x w h1 h2 => ?_
  obtain ⟨k, y, hky, hi⟩ := ha.2 j w (by rw [← Array.getElem?_toList]; exact h2)
  have e1 : ((kvs.map gdK).map (·.1))[j]? = some k := by
    rw [KV.keys rel, List.getElem?_map, hky]
    rfl
  have e2 : (kvs.map fun p => V.str p.1)[j]? = some (kV k) := by
    have e3 : (kvs.map fun p => V.str p.1) = ((kvs.map gdK).map (·.1)).map kV := by rw [List.map_map, List.map_map]; rfl
    rw [e3, List.getElem?_map, e1]
    rfl
  rw [h1] at e2
  cases e2
  exact keyIs_rel hi
end
end L2
namespace Z
open PySem PySem.Spec L2
def GD (K : PySem.W.Frag) (w : World) (mg : Str → Option Value) (x : Str) (kvs : List (Str × Int)) : Prop := ∃ f, mg x = some (.ref f) ∧ GDat K w f kvs
theorem gl_dct {K : PySem.W.Frag} {w : World} {mg : Str → Option Value} {h : Heap} {x : Str} {f : Addr} {es : Array DictEntry} {ep : Nat} {kvs : List (Str × Int)} (X : K.In h) (G : h.Ns mainGlobals mg)
    (a : PySem.W.nsIn K mainGlobals x = some (some (.ref f))) (l : K.lookup f = some ⟨.type "dict", none, .dict es ep, #[]⟩) (e : EntsOk w es.toList kvs) (hs : (f == sysModules) = false) (nd : (kvs.map (·.1)).Nodup) (hl : kvs.length ≤ 1000) : GD K w mg x kvs :=
  ⟨f, PySem.W.mg_of X G a, ⟨es, ep, l, e⟩, hs, nd, hl⟩
def gdxM (kvs : List (Str × Int)) (m : M O) : M O := M.bd m fun o g => match o with
  | .d (.str k) => match kvs.lookup k with
    | some n => .ok (.d (.int n)) g
    | none => .bad
  | _ => .bad
section
variable {X : Cx} {W : WX} {pu : Bool} {e : Expr} {m : M O} {p p2 pos : Pos} {x : Str} {kvs : List (Str × Int)} {k : Nat}
theorem ev_gdx (c : Cc X W k) (hB : GD X.K X.w X.mg x kvs) (hg : Gl X x) (h : Ev X W pu e m) (hs : NoSl e := by intro _ _; rfl) (hdb : (x == ("__debug__" : Str)) = false := by decide) : Ev X W false (.Subscript (.Name x p) e pos) (gdxM kvs m) := by
  obtain ⟨f, hm, hd⟩ := hB
  obtain ⟨t, h1, h2⟩ := h.ex
  refine ⟨_, pe_gdx (by have := c.hr.units; omega) hg hm hd h1 hs hdb, fun σ H Q g T Ex ws a w => ?_⟩
  refine h2 σ H _ g T Ex ws a (w.bd.imp (fun o g' kk v H' s a' => ?_) fun _ _ k => k)
  split at kk
  · rename_i y
    split at kk
    · rename_i n hn
      obtain rfl := a'.top.isS
      exact ⟨y, n, rfl, hn, kk (.int n) H' (fun z => by cases z) (.ofTop a'.fit (a'.drop.rel.noviews.data fun _ => .int _))⟩
    · exact kk.elim
  · exact kk.elim
theorem ev_gdl (c : Cc X W k) (hB : GD X.K X.w X.mg x kvs) (hg : Gl X x) (hm : X.mg "list" = none) (hgl : Gl X "list" := by rfl) (hdb : (x == ("__debug__" : Str)) = false := by decide) (he : starEach [Expr.Name x p] X.env = (false, eval (Expr.Name x p) X.env) :: starEach [] X.env := by rfl) (hpl : (backTo pos (starEach [] X.env)).any (·.1) = false := by rfl) :
    Ev X W false (.Call (.Name "list" p2) [.Name x p] [] pos) (M.ret (.lst (kvs.map fun q => .d (.str q.1)))) := by
  obtain ⟨f, hmx, hd⟩ := hB
  refine ⟨_, pe_callTy (call_gdl c.calm hd) hgl hm boot_list_0 (PEs.cons (pe_glob hg hmx (v := .ref f) rfl hdb) he .nil).pa (by decide) (by decide) he hpl, fun σ H Q g T Ex ws a w => ?_⟩
  refine ⟨rfl, fun q hq => ?_⟩
  obtain ⟨Hf, sm, hw, cl⟩ := a.rel.fr
  have hd2 : ∀ l : List (Str × Int), DpAll X.K Hf.h (l.map fun p => V.str p.1) (l.map fun p => PyData.str p.1) := fun l => by
    induction l with
    | nil => exact .nil
    | cons y r ih => exact .cons (.str _) ih
  have r3 := (cl _ _ (hd2 kvs)).noviews.mkLst (by simp) hq
  rw [List.map_map] at r3
  exact w _ _ (fun z => by cases z) (.ofTop a.fit r3)
end
section
variable {A : O → Gs → Prop} {B : Exn → Gs → Prop} {g : Gs} {m : M O} {kvs : List (Str × Int)}
def GdK (kvs : List (Str × Int)) (A : O → Gs → Prop) : O → Gs → Prop
  | .d (.str k), g => ∃ n, kvs.lookup k = some n ∧ A (.d (.int n)) g
  | _, _ => False
instance s_gdx : Stp (Wp (gdxM kvs m g) A B) (Wp (m g) (GdK kvs A) B) := ⟨fun h => by
  unfold gdxM
  refine (wp_bd (m := m)).mpr (h.mono (fun o g1 q => ?_) fun _ _ z => z)
  unfold GdK at q
  split at q
  · obtain ⟨n, h1, k⟩ := q
    simp only [h1]
    exact k
  · exact q.elim⟩
end
end Z
namespace Z
open PySem PySem.Spec L2
end Z
namespace L2
open PySem PySem.Spec PyProof.Rows Z
end L2
namespace Z
open PySem PySem.Spec L2
section
variable {X : Cx} {W : WX} {pu : Bool} {e i : Expr} {m md : M O} {p apos pos : Pos} {x : Str} {kvs : List (Str × List PyData)} {k : Nat}
/-- x.split(y) -/
def splM (m ma : M O) : M O := M.bd m fun o g => match o with
  | .d (.str s) => M.bd ma (fun x g2 => match x with
    | .d (.str b) => if (b.length == 0) = false ∧ s.length ≤ 1000000 then .ok (.lst ((Txt.split s b).map fun t => .d (.str t))) g2 else .bad
    | _ => .bad) g
  | _ => .bad
end
section
variable {X : Cx} {W : WX} {pu pv : Bool} {o a : Expr} {m ma : M O} {apos pos : Pos}
theorem dpStrs {K : PySem.W.Frag} {H : Hp} : ∀ l : List Str, DpAll K H (l.map V.str) (l.map PyData.str)
  | [] => .nil
  | _ :: r => .cons (.str _) (dpStrs r)
theorem ev_split (h : Ev X W true o m) (hx : Ev X W true a ma) (hs : starEach [a] X.env = [(false, eval a X.env)] := by rfl) (hbase : attributeBase o "split" X.env (eval o X.env) = eval o X.env := by rfl) (hline : (apos.endLine == pos.line) = true := by rfl) :
    Ev X W false (.Call (.Attribute o "split" apos) [a] [] pos) (splM m ma) := by
  obtain ⟨t, h1, h2⟩ := h.ex
  obtain ⟨t3, x1, x2⟩ := hx.ex
  refine ⟨_, pe_split h1 x1 hs hbase hline, fun σ H Q g T Ex ws a w => ?_⟩
  refine h2 σ H _ g T Ex ws a (w.bd.imp (fun o g' kk v H' s a' => ?_) fun _ _ k => k)
  split at kk
  · rename_i y
    obtain rfl := a'.top.isS
    refine ⟨⟨y, rfl⟩, ?_⟩
    refine x2 σ H' _ g' _ Ex _ a' (kk.bd.imp (fun ox g3 kq3 z H3 s3 a3 => ?_) fun x g3 k H3 cls dd a3 => k H3 cls dd a3.drop)
    split at kq3
    · rename_i b
      obtain rfl := a3.top.isS
      split at kq3
      · rename_i hb
        have hz : (1000000 : Nat) + 2 ≤ sizeLine := by decide
        refine ⟨y, b, rfl, rfl, hb.1, by have := hb.2; omega, fun q hq => ?_⟩
        have a4 := a3.drop.drop
        obtain ⟨Hf, sm, hw, cl⟩ := a4.rel.fr
        have r3 := (cl _ _ (dpStrs (K := X.K) (H := Hf.h) (Txt.split y b))).noviews.mkLst (by simp) hq
        rw [List.map_map] at r3
        exact kq3 _ _ (fun z => by cases z) (.ofTop a4.fit r3)
      · exact kq3.elim
    · exact kq3.elim
  · exact kk.elim
end
section
variable {A : O → Gs → Prop} {B : Exn → Gs → Prop} {g : Gs} {m ma : M O} {kvs : List (Str × List PyData)}
instance s_spl : Stp (Wp (splM m ma g) A B) (Wp (m g) (AsSK fun s g1 => Wp (ma g1) (AsSK fun b g2 => Sd ((b.length == 0) = false ∧ s.length ≤ 1000000) (A (.lst ((Txt.split s b).map fun t => .d (.str t))) g2)) B) B) := ⟨fun h => by
  unfold splM
  refine (wp_bd (m := m)).mpr (h.mono (fun o g1 q => ?_) fun _ _ z => z)
  unfold AsSK at q
  split at q
  · refine (wp_bd (m := ma)).mpr (q.mono (fun ox g2 q2 => ?_) fun _ _ z => z)
    split at q2
    · obtain ⟨h1, h2⟩ := q2
      simp only [if_pos h1]
      exact h2
    · exact q2.elim
  · exact q.elim⟩
end
end Z
namespace Z
open PySem PySem.Spec L2
theorem drawsFromL {prog : Program} {w : World} {A : Around} (hh : A.handled = none) (it t : Addr) (hne : t ≠ it) (items : Array Value) (i : Nat) :
    Draws prog w A it [it, t] (items.size - i) (fun _ _ => True) (fun j h => h.IsListIter it t (i + j) ∧ h.IsList t items) where
  live := fun _ _ st => let ⟨o, ho, _⟩ := st.1; ⟨o, ho⟩
  frame := fun _ _ _ st hk => ⟨st.1.at fun o e => hk it (by simp) o e, st.2.at fun o e => hk t (by simp) o e⟩
  item := fun j s Q E hj st hQ => by
    refine wpAny_nextOf_list_item st.1 st.2 (x := items[i + j]'(by omega)) (by simp) fun h' hit' hs' => ?_
    exact hQ _ h' s.toks trivial ⟨hit', st.2.extBut hs'.extBut hne⟩ hs'
  done := fun s Q E st hE => wpAny_nextOf_list_end hh st.1 st.2 (by simp; omega) hE
theorem notin2 {x p q : Nat} (h : x ≠ p) (k : x ≠ q) : x ∉ [p, q] := fun m => by
  rcases List.mem_cons.mp m with e | m
  · exact h e
  · exact k (List.mem_singleton.mp m)
theorem zmLe (n c : Nat) (h : c ∈ [n + 4, n + 2, n + 3, n, n + 1]) : n ≤ c := by
  simp only [List.mem_cons, List.not_mem_nil, or_false] at h
  omega
def zmC (xs ys : List PyData) (i : Nat) : Bool := idxS [xs[i]?.getD .none, ys[i]?.getD .none]
end Z
namespace L2
open PySem PySem.Spec
section
variable {X : Cx}
/-- x.rpartition(sep) -/
theorem mt_rpart : MtR X "str.rpartition" (fun x xs H Q => ∃ a b, x = .str a ∧ xs = [.str b] ∧ (b.length == 0) = false ∧ a.length ≤ sizeLine ∧
    ∀ p, H p = none → Q (.ref p) (upd H p (.tup [.str (Txt.rpartition a b).1, .str (Txt.rpartition a b).2.1, .str (Txt.rpartition a b).2.2]))) := by
  intro pins s σ H x xs v us Q I rx rs h
  obtain ⟨a, b, rfl, rfl, hb, hz, h⟩ := h
  obtain ⟨t, rfl⟩ := rx
  cases rs with
  | cons r1 rs =>
    cases rs
    obtain ⟨u, rfl⟩ := r1
    refine call_meets F.slot_str_rpartition (typeIs_str _ _ _) F.entry_str_rpartition (F.args_str_rpartition_2 _ _) (meets_str_rpartition a b t u hb hz) ?_
    unfold Txt.rpartition at h
    generalize Builtin.Str.lastOccurrence a b 0 a.length = o at h ⊢
    cases o <;> exact laid_parts I h
end
end L2
namespace Z
open PySem PySem.Spec L2
/-- x.rpartition(y)[0] -/
def rp0M (m ma : M O) : M O := M.bd m fun o g => match o with
  | .d (.str s) => M.bd ma (fun x g2 => match x with
    | .d (.str b) => if (b.length == 0) = false ∧ s.length ≤ 1000000 then .ok (.d (.str (Txt.rpartition s b).1)) g2 else .bad
    | _ => .bad) g
  | _ => .bad
/-- x.find(y, i) -/
def fd3M (m ma mb : M O) : M O := M.bd m fun o g => match o with
  | .d (.str s) => M.bd ma (fun x g2 => match x with
    | .d (.str b) => M.bd mb (fun y g3 => match y with
      | .d (.int i) => .ok (.d (.int (Txt.find3 s b i))) g3
      | _ => .bad) g2
    | _ => .bad) g
  | _ => .bad
section
variable {X : Cx} {W : WX} {pu pv : Bool} {o a b : Expr} {m ma mb : M O} {apos pos pos2 pos3 : Pos} {j : Nat}
theorem ev_rp0 (h : Ev X W true o m) (hx : Ev X W true a ma) (hs : starEach [a] X.env = [(false, eval a X.env)] := by rfl) (hbase : attributeBase o "rpartition" X.env (eval o X.env) = eval o X.env := by rfl) (hline : (apos.endLine == pos.line) = true := by rfl)
    (hi : PlainIx (.Constant (.int 0) j pos3) := by intro _ _; rfl) : Ev X W false (.Subscript (.Call (.Attribute o "rpartition" apos) [a] [] pos) (.Constant (.int 0) j pos3) pos2) (rp0M m ma) := by
  obtain ⟨t, h1, h2⟩ := h.ex
  obtain ⟨t3, x1, x2⟩ := hx.ex
  refine ⟨_, pe_ix ix_tup (pe_m1 PySem.F.slot_str_rpartition PySem.F.type_str_rpartition mt_rpart h1 x1 hs hbase hline) pe_int hi, fun σ H Q g T Ex ws a w => ?_⟩
  refine h2 σ H _ g T Ex ws a (w.bd.imp (fun o g' kk v H' s a' => ?_) fun _ _ k => k)
  split at kk
  · rename_i y
    obtain rfl := a'.top.isS
    refine ⟨⟨y, rfl⟩, ?_⟩
    refine x2 σ H' _ g' _ Ex _ a' (kk.bd.imp (fun ox g3 kq3 z H3 s3 a3 => ?_) fun x g3 k H3 cls dd a3 => k H3 cls dd a3.drop)
    split at kq3
    · rename_i b
      obtain rfl := a3.top.isS
      split at kq3
      · rename_i hb
        have hz : (1000000 : Nat) ≤ sizeLine := by decide
        refine ⟨y, b, rfl, rfl, hb.1, by have := hb.2; omega, fun p hp => ?_⟩
        have a4 := a3.drop.drop
        refine ⟨p, _, 0, _, rfl, rfl, SqT.of upd_same, rfl, ?_⟩
        refine kq3 _ _ (fun z => by cases z) (.ofTop a4.fit ?_)
        exact (a4.rel.noviews.same (sameNew hp _)).data fun _ => .str _
      · exact kq3.elim
    · exact kq3.elim
  · exact kk.elim
theorem ev_fd3 (h : Ev X W true o m) (hx : Ev X W true a ma) (hy : Ev X W true b mb) (hbase : attributeBase o "find" X.env (eval o X.env) = eval o X.env := by rfl)
    (hfew : ((backTo pos (starEach [a, b] X.env)).all (fun x => !x.1) && (backToKw pos (keywordEach [] X.env)).all (fun x => x.1.isSome)
      && decide (([a, b] : List Expr).length + ([] : List Keyword).length + (if ([] : List Keyword).isEmpty then 0 else 1) < 30)) = true := by rfl)
    (hline : (apos.endLine == pos.line) = true := by rfl) (hs : starEach [a, b] X.env = (false, eval a X.env) :: starEach [b] X.env := by rfl) (hs2 : starEach [b] X.env = (false, eval b X.env) :: starEach [] X.env := by rfl) (hplain : (backTo pos (starEach [b] X.env)).any (·.1) = false := by rfl) :
    Ev X W false (.Call (.Attribute o "find" apos) [a, b] [] pos) (fd3M m ma mb) := by
  obtain ⟨t, h1, h2⟩ := h.ex
  obtain ⟨t3, x1, x2⟩ := hx.ex
  obtain ⟨t4, y1, y2⟩ := hy.ex
  refine ⟨_, pe_bm PySem.F.plainAttrs_str PySem.F.slot_str_find PySem.F.type_str_find mt_find3 h1 (pa_cons x1 (pa_cons y1 pa_nil hs2) hs) hbase hfew hline hs hplain, fun σ H Q g T Ex ws a w => ?_⟩
  refine h2 σ H _ g T Ex ws a (w.bd.imp (fun o g' kk v H' s a' => ?_) fun _ _ k => k)
  split at kk
  · rename_i y
    obtain rfl := a'.top.isS
    refine ⟨by first | trivial | exact ⟨_, rfl⟩ | rfl, ?_⟩
    refine x2 σ H' _ g' _ Ex _ a' (kk.bd.imp (fun ox g3 kq3 z H3 s3 a3 => ?_) fun x g3 k H3 cls dd a3 => k H3 cls dd a3.drop)
    split at kq3
    · rename_i b
      obtain rfl := a3.top.isS
      refine y2 σ H3 _ g3 _ Ex _ a3 (kq3.bd.imp (fun oy g4 kq4 u H4 s4 a4 => ?_) fun x g4 k H4 cls dd a4 => k H4 cls dd a4.drop.drop)
      split at kq4
      · rename_i i
        obtain rfl := a4.top.isI
        have a5 := a4.drop.drop.drop
        exact ⟨y, b, i, rfl, rfl, kq4 (.int (Txt.find3 y b i)) H4 (fun z => by cases z) (.ofTop a5.fit (a5.rel.noviews.data fun _ => .int _))⟩
      · exact kq4.elim
    · exact kq3.elim
  · exact kk.elim
end
section
variable {A : O → Gs → Prop} {B : Exn → Gs → Prop} {g : Gs} {m ma mb : M O}
instance s_rp0 : Stp (Wp (rp0M m ma g) A B) (Wp (m g) (AsSK fun s g1 => Wp (ma g1) (AsSK fun b g2 => Sd ((b.length == 0) = false ∧ s.length ≤ 1000000) (A (.d (.str (Txt.rpartition s b).1)) g2)) B) B) := ⟨fun h => by
  unfold rp0M
  refine (wp_bd (m := m)).mpr (h.mono (fun o g1 q => ?_) fun _ _ z => z)
  unfold AsSK at q
  split at q
  · refine (wp_bd (m := ma)).mpr (q.mono (fun ox g2 q2 => ?_) fun _ _ z => z)
    split at q2
    · obtain ⟨h1, h2⟩ := q2
      simp only [if_pos h1]
      exact h2
    · exact q2.elim
  · exact q.elim⟩
instance s_fd3 : Stp (Wp (fd3M m ma mb g) A B) (Wp (m g) (AsSK fun s g1 => Wp (ma g1) (AsSK fun b g2 => Wp (mb g2) (AsIK fun i g3 => A (.d (.int (Txt.find3 s b i))) g3) B) B) B) := ⟨fun h => by
  unfold fd3M
  refine (wp_bd (m := m)).mpr (h.mono (fun o g1 q => ?_) fun _ _ z => z)
  unfold AsSK at q
  split at q
  · refine (wp_bd (m := ma)).mpr (q.mono (fun ox g2 q2 => ?_) fun _ _ z => z)
    split at q2
    · refine (wp_bd (m := mb)).mpr (q2.mono (fun oy g3 q3 => ?_) fun _ _ z => z)
      unfold AsIK at q3
      split at q3
      · exact q3
      · exact q3.elim
    · exact q2.elim
  · exact q.elim⟩
end
end Z
namespace Z
open PySem PySem.Spec L2
theorem drawsShift {prog : Program} {w : World} {A : Around} {it : Addr} {fp : List Addr} {n : Nat} {P : Nat → Value → Prop} {St : Nat → Heap → Prop} (D : Draws prog w A it fp n P St) {i : Nat} (hi : i ≤ n) :
    Draws prog w A it fp (n - i) (fun j v => P (i + j) v) (fun j h => St (i + j) h) where
  live := fun j h st => D.live (i + j) h st
  frame := fun j h h' st k => D.frame (i + j) h h' st k
  item := fun j s Q E hj st hQ => D.item (i + j) s Q E (by omega) st hQ
  done := fun s Q E st hE => D.done s Q E (by
    have e : i + (n - i) = n := by omega
    rw [e] at st
    exact st) hE
def Izs (K : PySem.W.Frag) (cf : Nat → Bool) (a : Addr) (z : Str) : It :=
  ⟨fun i H => ∃ (xs : List V) (x : V) (c : Nat), SqL K H a xs ∧ xs[i]? = some x ∧ z.cps[i]? = some c,
    fun i H v H' => ∃ T x c o, o.dict = none ∧ v = .ref T ∧ H T = none ∧ H' = upd H T (pairH (cf i) o [x, .str ⟨#[c]⟩]) ∧ (∀ xs, SqL K H a xs → xs[i]? = some x) ∧ z.cps[i]? = some c,
    fun i H => ∃ xs : List V, SqL K H a xs ∧ (xs.length ≤ i ∨ z.cps.size ≤ i)⟩
structure ZsSep (z TI TO i1 i2 a : Addr) : Prop where
  s : ZipSep2 z TI TO i1 i2 [i1, a] [i2]
  a1 : a ≠ i1
theorem turn_zs {P : Program} {w : World} {K : PySem.W.Frag} {elts : List Expr} {kk : Nat} {tpos : Pos} (cf : Nat → Bool) (a : Addr) (y : Str) (ty : Tok) (z TI TO i1 i2 : Addr) (S : ZsSep z TI TO i1 i2 a) :
    Turn P w K (.Tuple elts kk tpos) (Izs K cf a y) [z, TI, TO, i1, i2] z (fun i h => IsZip h z TI TO .none ∧ IsTupOf2 h TI (.ref i1) (.ref i2) ∧ (∃ x y, IsTupOf2 h TO x y) ∧ h.IsListIter i1 a i ∧ h.IsStrIter i2 (strIterType y) y ty i ∧ i ≤ y.cps.size) where
  mem := List.mem_cons_self ..
  obj := fun i h st c hc => by
    obtain ⟨hz, hTI, ⟨x, y, hTO⟩, ⟨o1, e1, _, d1⟩, ⟨o2, e2, _, d2⟩, _⟩ := st
    simp only [List.mem_cons, List.not_mem_nil, or_false] at hc
    rcases hc with q | q | q | q | q
    · rw [q]; exact ⟨_, hz, fun v q => nomatch q⟩
    · rw [q]; exact ⟨_, hTI, fun v q => nomatch q⟩
    · rw [q]; exact ⟨_, hTO, fun v q => nomatch q⟩
    · rw [q]; exact ⟨o1, e1, fun v q => by rw [d1] at q; cases q⟩
    · rw [q]; exact ⟨o2, e2, fun v q => by rw [d2] at q; cases q⟩
  keep := fun i h h' st k => by
    obtain ⟨hz, hTI, ⟨x, y, hTO⟩, h1, ⟨o2, e2, r2⟩, hi⟩ := st
    exact ⟨k z (by simp) _ hz, k TI (by simp) _ hTI, ⟨x, y, k TO (by simp) _ hTO⟩, h1.at fun o q => k i1 (by simp) o q, ⟨o2, k i2 (by simp) _ e2, r2⟩, hi⟩
  item := by
    intro X hP hw hK hc i pins s σ H E I hf st hg
    subst hP hw hK
    obtain ⟨hz, hTI, ⟨x0, y0, hTO⟩, h1, h2, hi2⟩ := st
    obtain ⟨xs, x, ch, hqx, hx, hch⟩ := hg
    obtain ⟨its, rv, p1, _⟩ := I.list hqx
    obtain ⟨u, hu, ru⟩ := rv.get hx
    have hT1 : s.heap.IsList a its.toArray := p1.isList
    have l1 : i < its.toArray.size := by simpa using (List.getElem?_eq_some_iff.mp hu).1
    have l2 : i < y.cps.size := (Array.getElem?_eq_some_iff.mp hch).1
    have hh : X.A.in1.handled = none := I.ok.hd hc
    have hzl : z < s.heap.objs.size := Heap.lt_size hz
    refine wpAny_pyNext_zipD2_item S.s (Draws.list hh i1 a S.a1 its.toArray) (Draws.text hh i2 y ty) hz hTI hTO ⟨h1, hT1⟩ h2 l1 l2 fun v1 v2 h' tk hv1 hv2 hz' hTO' st1 st2 hT hsz hk => ?_
    obtain rfl : u = v1 := by
      have e1 : its.toArray[i]? = some v1 := hv1
      rw [List.getElem?_toArray, hu] at e1
      exact Option.some.inj e1
    obtain ⟨c2, t2, hc2, ev2⟩ := hv2
    rw [hch] at hc2
    cases hc2
    subst ev2
    refine ⟨_, rfl, wpAny_letOwnedTupleGo_zip (s := ⟨h', s.gens, s.drawn, tk, s.os⟩) hz' fun h'' z'' sb => ?_⟩
    have hT3 : h''.get? s.heap.objs.size = some ⟨.type "tuple", none, .seq #[u, .str ⟨#[ch]⟩ t2] 0, #[]⟩ := (sb.2 _ (Nat.ne_of_gt hzl)).trans hT
    have hvs : Vals [x, V.str ⟨#[ch]⟩] [u, .str ⟨#[ch]⟩ t2] := .cons ru (.cons ⟨_, rfl⟩ .nil)
    have hnew : ObjOk X.prog X.w (upd H s.heap.objs.size (pairH (cf i) ⟨.type "tuple", none, .seq #[u, .str ⟨#[ch]⟩ t2] 0, #[]⟩ [x, .str ⟨#[ch]⟩])) h'' s.heap.objs.size (pairH (cf i) ⟨.type "tuple", none, .seq #[u, .str ⟨#[ch]⟩ t2] 0, #[]⟩ [x, .str ⟨#[ch]⟩]) := by
      cases cf i with
      | false => exact ⟨(show 2 ≤ sizeLine by decide), [u, .str ⟨#[ch]⟩ t2], hvs, ⟨_, hT3, rfl, _, rfl⟩⟩
      | true => exact ⟨hT3, (show 2 ≤ sizeLine by decide), [u, .str ⟨#[ch]⟩ t2], hvs, ⟨_, hT3, rfl, _, rfl⟩⟩
    have I2 := I.turnedNew (s := s) (h' := h'') (t' := tk) (ch := [z, TI, TO, i1, i2]) (fun c ob hb q => (sb.2 c (fun e => hb (by simp [e]))).trans (hk c ob (fun e => hb (by simp [e])) (fun e => hb (by simp [e])) (fun e => hb (by simp [e])) (fun e => hb (by simp [e])) q)) hf (Nat.le_refl _) hnew
    refine ⟨.ref s.heap.objs.size, _, I2, rfl, ⟨_, x, ch, _, rfl, rfl, I.hok.fresh (Nat.le_refl _), rfl, fun l hl => by rw [I.list_inj hl hqx]; exact hx, hch⟩, ⟨z'', ?_, ⟨u, .str ⟨#[ch]⟩ t2, ?_⟩, ?_, ?_, by omega⟩, fun c hcm => ?_⟩
    · exact (sb.2 _ S.s.TIz).trans (hk _ _ S.s.TIz S.s.TITO S.s.TIi1 S.s.TIi2 hTI)
    · exact (sb.2 _ S.s.TOz).trans hTO'
    · exact st1.1.at fun o q => (sb.2 i1 (Ne.symm S.s.zi1)).trans q
    · obtain ⟨o2, e2, r2⟩ := st2
      exact ⟨o2, (sb.2 i2 (Ne.symm S.s.zi2)).trans e2, r2⟩
    · have hlt : c < s.heap.objs.size := by
        simp only [List.mem_cons, List.not_mem_nil, or_false] at hcm
        rcases hcm with q | q | q | q | q
        · rw [q]; exact hzl
        · rw [q]; exact Heap.lt_size hTI
        · rw [q]; exact Heap.lt_size hTO
        · rw [q]; obtain ⟨_, e1, _⟩ := h1; exact Heap.lt_size e1
        · rw [q]; obtain ⟨_, e2, _⟩ := h2; exact Heap.lt_size e2
      rw [upd_ne (Nat.ne_of_lt hlt)]
      exact (hf c hcm).1
  done := by
    intro X hP hw hK hc i pins s σ H E I hf st hg
    subst hP hw hK
    obtain ⟨hz, hTI, ⟨x0, y0, hTO⟩, h1, h2, hi2⟩ := st
    obtain ⟨xs, hqx, hend⟩ := hg
    obtain ⟨its, rv, p1, _⟩ := I.list hqx
    have e1 := rv.length
    have hh : X.A.in1.handled = none := I.ok.hd hc
    refine wpAny_pyNext_zipD2_end (i := 0) S.s (drawsFromL hh i1 a S.a1 its.toArray i) (drawsShift (Draws.text hh i2 y ty) hi2) hz hTI hTO ⟨h1, p1.isList⟩ h2 (Nat.zero_le _) (Nat.zero_le _) ?_ fun h' tk hk => ⟨rfl, I.turnedL (t' := tk) (ch := [z, TI, TO, i1, i2]) (fun c o hb q =>
      hk c o (fun e => hb (by simp [e])) (fun e => hb (by simp [e])) (fun e => hb (by simp [e])) (fun e => hb (by simp [e])) q) hf⟩
    rcases hend with q | q
    · exact .inl (by simp; omega)
    · exact .inr (by omega)
  self := fun A i s Q E st h => wpAny_pyIter_zip st.1 h
theorem notin1 {x p : Nat} (h : x ≠ p) : x ∉ [p] := fun m => h (List.mem_singleton.mp m)
theorem zsApart (n a : Nat) (la : a < n) : ZsSep (n + 4) (n + 2) (n + 3) n (n + 1) a where
  s := {
    TIz := show (n + 2 : Nat) ≠ n + 4 by omega
    TOz := show (n + 3 : Nat) ≠ n + 4 by omega
    TITO := show (n + 2 : Nat) ≠ n + 3 by omega
    TIi1 := show (n + 2 : Nat) ≠ n by omega
    mem1 := List.mem_cons_self
    zf1 := notin2 (show (n + 4 : Nat) ≠ n by omega) (show (n + 4 : Nat) ≠ a by omega)
    Tf1 := notin2 (show (n + 3 : Nat) ≠ n by omega) (show (n + 3 : Nat) ≠ a by omega)
    TIi2 := show (n + 2 : Nat) ≠ n + 1 by omega
    mem2 := List.mem_cons_self
    zf2 := notin1 (show (n + 4 : Nat) ≠ n + 1 by omega)
    Tf2 := notin1 (show (n + 3 : Nat) ≠ n + 1 by omega)
    sep1_2 := notin1 (show (n : Nat) ≠ n + 1 by omega)
    sep2_1 := notin2 (show (n + 1 : Nat) ≠ n by omega) (show (n + 1 : Nat) ≠ a by omega) }
  a1 := show (a : Nat) ≠ n by omega
def iZs (K : PySem.W.Frag) (ta : TA) : TI := fun σ H R => ta σ H fun vs H1 => ∃ a y cf, vs = [.ref a, .str y] ∧ (∃ xs, SqL K H1 a xs) ∧ R (Izs K cf a y) H1
open PyProof.Rows in
theorem pi_zs {X : Cx} {e e2 : Expr} {ta : TA} {p pos tpos : Pos} {elts : List Expr} {kk : Nat} (hg : Gl X "zip") (hm : X.mg "zip" = none) (ha : PA X [e, e2] ta)
    (hs : starEach [e, e2] X.env = (false, eval e X.env) :: starEach [e2] X.env := by rfl) (hpl : (backTo pos (starEach [e2] X.env)).any (·.1) = false := by rfl) :
    PI X (.Tuple elts kk tpos) (.Call (.Name "zip" p) [e, e2] [] pos) (iZs X.K ta) := by
  refine ⟨fun pins s σ H R I h => ?_⟩
  refine Call_ (ld_blt I hg hm PyProof.Rows.boot_zip (PyProof.Rows.callWith_type1 (thn (ha.run pos pins s σ H _ I h) fun us s1 ⟨vs, H1, I1, r1, q1⟩ => ?_) hs hpl))
  obtain ⟨a, y, cf, ex, ⟨xs, hqx⟩, q⟩ := q1
  subst ex
  cases r1 with
  | cons r rr =>
    cases rr with
    | cons r' rr =>
      cases rr
      cases r
      obtain ⟨ty, rfl⟩ := r'
      obtain ⟨its, rv, p1, _⟩ := I1.list hqx
      have hT1 : s1.heap.IsList a its.toArray := p1.isList
      have la : a < s1.heap.objs.size := p1.lt
      refine zip_begins2 (begins_list a its.toArray) (begins_text y ty) hT1 trivial fun h' hz hTI hTO g1 g2 hsz hk => wpAny_pyIter_zip hz ?_
      have I2 : Inv X pins σ H1 { s1 with heap := h' } := I1.kept (t' := s1.toks) hk
      refine ⟨s1.heap.objs.size + 4, [s1.heap.objs.size + 4, s1.heap.objs.size + 2, s1.heap.objs.size + 3, s1.heap.objs.size, s1.heap.objs.size + 1], _, _, H1, rfl, I2, turn_zs cf a y ty _ _ _ _ _ (zsApart _ a la), ⟨hz, hTI, ⟨_, _, hTO⟩, ⟨_, g1, rfl, rfl⟩, ⟨_, g2, rfl, rfl⟩, Nat.zero_le _⟩, fun c hc => ?_, q⟩
      have hle : s1.heap.objs.size ≤ c := zmLe _ c hc
      exact I1.fpOk hle (I1.hok.fresh hle)
theorem signs_len (y : Str) : (signs y).length = y.cps.size := by simp [signs]
theorem signs_get {y : Str} {i : Nat} (h : i < (signs y).length) : ∃ c, y.cps[i]? = some c ∧ (signs y)[i] = .str ⟨#[c]⟩ := by
  have h2 := h
  rw [signs_len] at h2
  exact ⟨y.cps[i], Array.getElem?_eq_getElem h2, by simp [signs]⟩
theorem wkZs {K : PySem.W.Frag} {mg : Str → Option Value} {a : Addr} {y : Str} {xs : List PyData} : Wk K mg (Izs K (zmC xs (signs y)) a y) [(.ref a, .d (.list xs))] (zpD xs (signs y)) where
  go := fun i H Ex rs hi r => by
    have hl := hi
    rw [zpD_len] at hl
    obtain ⟨Hf, s, h, _⟩ := Rel.headDp r
    obtain ⟨c, hc, _⟩ := signs_get (y := y) (i := i) (by omega)
    cases h with
    | lst q1 t1 =>
      have e1 := dpLen t1
      rename_i us
      exact ⟨us, us[i]'(by omega), c, SqL.of (s _ _ q1), by simp, hc⟩
  stop := fun i H Ex rs hi r => by
    rw [zpD_len, signs_len] at hi
    obtain ⟨Hf, s, h, _⟩ := Rel.headDp r
    cases h with
    | lst q1 t1 =>
      have e1 := dpLen t1
      exact ⟨_, SqL.of (s _ _ q1), by omega⟩
  yld := fun i H Ex rs x H' hi r y1 => by
    have hl := hi
    rw [zpD_len] at hl
    obtain ⟨Hf, s, h, k⟩ := Rel.headDp r
    obtain ⟨T, z, c, o, ho, ev, hT, eH, hz, hc⟩ := y1
    subst ev eH
    obtain ⟨c2, hc2, es⟩ := signs_get (y := y) (i := i) (by omega)
    rw [hc] at hc2
    cases hc2
    cases h with
    | lst q1 t1 =>
      have d1 := dpGet t1 (hz _ (SqL.of (s _ _ q1))) (by omega)
      have r2 := k _ _ d1
      have r3 : Rel K mg H Ex ((z, .d (xs[i]'(by omega))) :: (.str ⟨#[c]⟩, .d (.str ⟨#[c]⟩)) :: (.ref a, .d (.list xs)) :: rs) [] := ((r2.noviews.data fun _ => .str _).perm (.swap _ _ _))
      have r4 := Rel.pairH (vs := [z, .str ⟨#[c]⟩]) (ds := [xs[i]'(by omega), .str ⟨#[c]⟩]) (rs := (.ref a, .d (.list xs)) :: rs) r3 rfl ho hT
      have ec : zmC xs (signs y) i = idxS [xs[i]'(by omega), .str ⟨#[c]⟩] := by unfold zmC; rw [List.getElem?_eq_getElem (show i < xs.length by omega), List.getElem?_eq_getElem (show i < (signs y).length by omega), es]; rfl
      rw [ec, zpD_get hi (by omega) (by omega), es]
      exact ⟨sameNew hT _, r4⟩
def zsM (os : List O) : M (List PyData) := fun g => match os with
  | [.d (.list xs), .d (.str y)] => .ok (zpD xs (signs y)) g
  | _ => .bad
theorem ei_zipS {X : Cx} {W : WX} {pu : Bool} {a b : Expr} {p pos tpos : Pos} {elts : List Expr} {kk : Nat} {ms : M (List O)} (h : EvEs X W pu [a, b] ms) (hg : Gl X "zip") (hm : X.mg "zip" = none) (hs : starEach [a, b] X.env = (false, eval a X.env) :: starEach [b] X.env := by rfl)
    (hpl : (backTo pos (starEach [b] X.env)).any (·.1) = false := by rfl) : EvI X W pu (.Tuple elts kk tpos) (.Call (.Name "zip" p) [a, b] [] pos) (M.bd ms zsM) := by
  obtain ⟨ts, g1, g2⟩ := h.ex
  refine ⟨_, pi_zs hg hm g1.pa hs hpl, fun σ H R g T Ex ws a w => g2 σ H _ g T Ex ws a (w.bd.imp (fun os g' kq vs H' hl s a' => ?_) fun _ _ kq => kq)⟩
  unfold zsM at kq
  split at kq
  · rename_i xs y
    match vs, hl with
    | [v, u], _ =>
      have a1 : At X H' Ex σ g' ((v, .d (.list xs)) :: (u, .d (.str y)) :: T) (Vs pu ws) := a'
      obtain rfl := a1.drop.top.isS
      obtain ⟨Hf, sm, hd, _⟩ := a1.top.headDp
      have a2 : At X H' Ex σ g' ((v, .d (.list xs)) :: T) (Vs pu ws) := by
        have r1 : Rel X.K X.mg H' Ex ((V.str y, .d (.str y)) :: (v, .d (.list xs)) :: (roots σ g' ++ T)) (Vs pu ws) := a1.rel.perm (((List.perm_middle).trans (.cons _ List.perm_middle)).trans (.swap _ _ _))
        exact .ofTop a1.fit r1.drop
      cases hd with
      | lst q1 q2 => exact ⟨_, _, _, rfl, ⟨_, SqL.of (sm _ _ q1)⟩, kq _ H' [(_, .d (.list xs))] wkZs s a2⟩
  · exact kq.elim
instance s_zs {AD : List PyData → Gs → Prop} {B : Exn → Gs → Prop} {g : Gs} {xs : List PyData} {y : Str} : Stp (Wp (zsM [.d (.list xs), .d (.str y)] g) AD B) (AD (zpD xs (signs y)) g) := ⟨id⟩
end Z
namespace Z
open PySem PySem.Spec L2
def repS (i : Str) (n : Nat) : Str := ⟨(List.replicate n i.cps).foldl (· ++ ·) #[]⟩
theorem rep_fold (a : Array Nat) : ∀ (n : Nat) (b : Array Nat), ((List.replicate n a).foldl (· ++ ·) b).toList = b.toList ++ (List.replicate n a.toList).flatten
  | 0, b => by simp
  | n + 1, b => by
    rw [List.replicate_succ, List.foldl_cons, rep_fold a n (b ++ a), List.replicate_succ, List.flatten_cons]
    simp
theorem rep_L (i : Str) (n : Nat) : (repS i n).cps.toList = (List.replicate n i.cps.toList).flatten := by
  show ((List.replicate n i.cps).foldl (· ++ ·) #[]).toList = _
  rw [rep_fold]
  rfl
theorem rep_len (i : Str) (n : Nat) : (repS i n).length = n * i.length := by
  have h := congrArg List.length (rep_L i n)
  simp only [Array.length_toList, List.length_flatten, List.map_replicate, List.sum_replicate_nat] at h
  exact h
def rTms : R2 := fun x y H Q => ∃ (i : Str) (n : Nat), x = .str i ∧ y = .int (n : Int) ∧ n ≤ 1000 ∧ i.length ≤ 10000 ∧ Q (.str (repS i n)) H
section
variable {X : Cx} {W : WX} {pu pv pw : Bool} {H H' : Hp} {Ex : List (Addr × HO)} {σ σ' : L2.St} {g : Gs} {T T' ws ws' rs : Roots} {e a b o lo hi : Expr} {es : List Expr} {m : M O} {ms : M (List O)} {pos p p2 apos : Pos} {k j np : Nat} {x : Str}
theorem op_tms : OpR X (binaryOp .Mult) rTms := by
  intro pins s σ H x y v u Q I rx ry h
  obtain ⟨i, n, rfl, rfl, h0, h1, q⟩ := h
  obtain ⟨t, rfl⟩ := rx
  obtain ⟨t', rfl⟩ := ry
  have hm : i.length * n ≤ 10000 * 1000 := Nat.mul_le_mul h1 h0
  refine P.mul_str ?_ (fun h2 _ => ?_) (fun h2 _ => ?_) ?_
  · rw [decide_eq_false (by omega), decide_eq_false (by omega)]; rfl
  · have h3 : (1000 : Int) ≤ (2 ^ 63 - 1) / n := by
      refine Int.le_ediv_of_mul_le (by omega) ?_
      omega
    have h4 : (10000 : Int) ≤ (2 ^ 63 - 1) / n := by
      refine Int.le_ediv_of_mul_le (by omega) ?_
      omega
    omega
  · rw [Int.toNat_natCast]
    refine decide_eq_false ?_
    have hz : (16777216 : Nat) ≤ sizeLine := by decide
    omega
  · by_cases e0 : n = 0
    · subst e0
      rw [if_pos (by decide)]
      exact ⟨by decide, .str Str.empty, H, I.tok _, ⟨_, rfl⟩, q⟩
    · rw [if_neg (by omega)]
      by_cases e1 : ((n : Int) == 1 || i.length == 0) = true
      · rw [if_pos e1]
        have e2 : repS i n = i := by
          have e3 : (repS i n).cps.toList = i.cps.toList := by
            rw [rep_L]
            rcases Bool.or_eq_true_iff.mp e1 with z | z
            · have : n = 1 := by have := of_decide_eq_true z; omega
              subst this
              simp
            · have : i.cps.toList = [] := by
                have : i.cps.toList.length = 0 := by have := of_decide_eq_true z; simpa [Str.length] using this
                exact List.eq_nil_of_length_eq_zero this
              rw [this]
              induction n with
              | zero => rfl
              | succ n ih => simp
          obtain ⟨ic⟩ := i
          exact congrArg Str.mk (Array.toList_inj.mp e3)
        rw [e2] at q
        exact ⟨.str i, H, I, ⟨_, rfl⟩, q⟩
      · rw [if_neg e1, Int.toNat_natCast]
        refine ⟨?_, .str (repS i n), H, I.tok _, ⟨_, rfl⟩, q⟩
        have hz : (16777216 : Nat) ≤ sizeLine := by decide
        have hl := rep_len i n
        rw [Nat.mul_comm] at hl
        show (repS i n).length ≤ sizeLine
        omega
def tmsF : List O → Option O
  | [.d (.str i), .d (.int j)] => if 0 ≤ j ∧ j ≤ 1000 ∧ i.length ≤ 10000 then some (.d (.str (repS i j.toNat))) else none
  | _ => none
theorem pr_tms : PR X (r2L rTms) tmsF := by
  intro xs os H Ex rs ws Q o hl r hf k5
  unfold tmsF at hf
  split at hf
  · rename_i i j
    split at hf
    · rename_i hc
      cases hf
      obtain ⟨x, y, rfl⟩ := two hl
      obtain ⟨Hf, s, hw, cl⟩ := r.fr
      obtain ⟨_, h1⟩ := hw _ zipHead
      obtain ⟨_, h2⟩ := hw _ zipSnd
      obtain rfl := owS h1
      obtain rfl := owI h2
      refine ⟨i, j.toNat, rfl, by rw [Int.toNat_of_nonneg hc.1], by omega, hc.2.2, k5 _ _ (Same.refl _) (r.data fun _ => .str _)⟩
    · cases hf
  · cases hf
end
section
variable {AO : O → Prop} {s : Str} {n : Int}
instance o_tms : Stp (optW (tmsF [.d (.str s), .d (.int n)]) AO) (Sd (0 ≤ n ∧ n ≤ 1000 ∧ s.length ≤ 10000) (AO (.d (.str (repS s n.toNat))))) := ⟨fun h => by
  have e : tmsF [.d (.str s), .d (.int n)] = some (.d (.str (repS s n.toNat))) := by simp [tmsF, h.l]
  rw [e]; exact h.r⟩
end
end Z
namespace G
open PySem PySem.Spec L2 Z
noncomputable section
def g_is_name : M Fl := (retM (andV (chM ltF leF (dM (.int 0)) (opM lenF (consM (pkM 0) (M.ret []))) (dM (.int 5))) (andV (opM (inF true) (consM (pkM 0) (consM (M.ret (.gT [(.str "yes"), (.str "no"), (.str "not"), (.str "and"), (.str "or"), (.str "done"), (.str "then"), (.str "if"), (.str "while"), (.str "either"), (.str "often"), (.str "asks"), (.str "deeds"), (.str "keeps"), (.str "makes"), (.str "rests"), (.str "idles"), (.str "still"), (.str "never")])) (M.ret [])))) (opM allF (consM (compM [1] (M.bd (fzM 0) itemsM) (setM 1) yesM (opM (inF false) (consM (pkM 1) (consM (dM (.str "abcdefghijklmnopqrstuvwxyz")) (M.ret []))))) (M.ret []))))))
def f_is_name : Fn := runF 1 1 2 g_is_name
def g_Reading_init : M Fl := (seqM (fsM 0 "Reading" "text" (fzM 1))
  (seqM (fsM 0 "Reading" "row_number" (fzM 2))
  (seqM (fsM 0 "Reading" "place" (dM (.int 0)))
  (fsM 0 "Reading" "deep" (dM (.int 0))))))
def f_Reading_init : Fn := runF 3 3 3 g_Reading_init
def g_Reading_need : M Fl := (ifM (notZ (tstM (fzM 1))) (raiM "BadText" "at" (cpM (atM "Reading" "row_number" (pkM 0)))) (M.ret .next))
def f_Reading_need : Fn := runF 2 2 2 g_Reading_need
def g_Reading_take : M Fl := (seqM (dropM (methS "Reading" "need" 0 f_Reading_need [] (valA (opM eqF (consM (slLhM (unM (atM "Reading" "text" (pkM 0))) (cpM (atM "Reading" "place" (pkM 0))) (opM addF (consM (unM (atM "Reading" "place" (pkM 0))) (consM (dM (.int 1)) (M.ret []))))) (consM (pkM 1) (M.ret [])))) (M.ret []))))
  (fsAM 0 "Reading" "place" 1))
def f_Reading_take : Fn := runF 2 2 2 g_Reading_take
def g_Reading_take_word : M Fl := (seqM (asgM (cpM (atM "Reading" "place" (pkM 0))) (setM 1))
  (seqM (whM (andZ (tstM (opM ltF (consM (unM (atM "Reading" "place" (pkM 0))) (consM (opM lenF (consM (unM (atM "Reading" "text" (pkM 0))) (M.ret []))) (M.ret []))))) (tstM (opM (inF true) (consM (opM ixF (consM (unM (atM "Reading" "text" (pkM 0))) (consM (unM (atM "Reading" "place" (pkM 0))) (M.ret [])))) (consM (dM (.str " ()")) (M.ret [])))))) (fsAM 0 "Reading" "place" 1) 1000000)
  (retM (slLhM (unM (atM "Reading" "text" (pkM 0))) (rdM 1) (cpM (atM "Reading" "place" (pkM 0)))))))
def f_Reading_take_word : Fn := runF 1 1 2 g_Reading_take_word
def g_Reading_take_head : M Fl := (seqM (dropM (methS "Reading" "take" 0 f_Reading_take [] (valA (dM (.str "(")) (M.ret []))))
  (seqM (fsAM 0 "Reading" "deep" 1)
  (seqM (dropM (methS "Reading" "need" 0 f_Reading_need [] (valA (opM leF (consM (unM (atM "Reading" "deep" (pkM 0))) (consM (dM (.int 8)) (M.ret [])))) (M.ret []))))
  (seqM (asgM (methS "Reading" "take_word" 0 f_Reading_take_word [] (M.ret [])) (setM 2))
  (seqM (dropM (methS "Reading" "need" 0 f_Reading_need [] (valA (opM (inF false) (consM (pkM 2) (consM (pkM 1) (M.ret [])))) (M.ret []))))
  (retM (mvM 2)))))))
def f_Reading_take_head : Fn := runF 2 2 3 g_Reading_take_head
def g_Reading_shut : M Fl := (seqM (dropM (methS "Reading" "take" 0 f_Reading_take [] (valA (dM (.str ")")) (M.ret []))))
  (fsAM 0 "Reading" "deep" (-1)))
def f_Reading_shut : Fn := runF 1 1 1 g_Reading_shut
def g_Reading_is_open : M Fl := (retM (opM eqF (consM (slLhM (unM (atM "Reading" "text" (pkM 0))) (cpM (atM "Reading" "place" (pkM 0))) (opM addF (consM (unM (atM "Reading" "place" (pkM 0))) (consM (dM (.int 1)) (M.ret []))))) (consM (dM (.str "(")) (M.ret [])))))
def f_Reading_is_open : Fn := runF 1 1 1 g_Reading_is_open
def f_Reading_take_test : Nat → Fn
  | 0 => fun _ => .bad
  | n + 1 => runF 1 1 4 (seqM (ifM (notZ (tstM (methS "Reading" "is_open" 0 f_Reading_is_open [] (M.ret [])))) (seqM (asgM (methS "Reading" "take_word" 0 f_Reading_take_word [] (M.ret [])) (setM 1))
  (seqM (ifM (tstM (opM (inF false) (consM (pkM 1) (consM (tupM (consM (dM (.str "yes")) (consM (dM (.str "no")) (M.ret [])))) (M.ret []))))) (retM (tupM (consM (fzM 1) (M.ret [])))) (M.ret .next))
  (seqM (dropM (methS "Reading" "need" 0 f_Reading_need [] (valA (callM f_is_name [] (slIn 1 (M.ret []))) (M.ret []))))
  (retM (tupM (consM (dM (.str "ask")) (consM (fzM 1) (M.ret [])))))))) (M.ret .next))
  (seqM (asgM (methS "Reading" "take_head" 0 f_Reading_take_head [] (valA (M.ret (.lst [.d (.str "not"), .d (.str "and"), .d (.str "or")])) (M.ret []))) (setM 1))
  (seqM (asgM (lstM (consM (fzM 1) (M.ret []))) (setM 2))
  (seqM (M.bd (M.bd (consM (gdxM [("not", 1), ("and", 2), ("or", 2)] (fzM 1)) (M.ret [])) rng1M) (forM (setM 3) (seqM (dropM (methS "Reading" "take" 0 f_Reading_take [] (valA (dM (.str " ")) (M.ret []))))
  (dropM (appLM 2 (methS "Reading" "take_test" 0 (f_Reading_take_test n) [] (M.ret [])))))))
  (seqM (dropM (methS "Reading" "shut" 0 f_Reading_shut [] (M.ret [])))
  (retM (opM tupF (consM (pkM 2) (M.ret [])))))))))
def f_Reading_take_errand : Nat → Fn
  | 0 => fun _ => .bad
  | n + 1 => runF 1 1 4 (seqM (ifM (notZ (tstM (methS "Reading" "is_open" 0 f_Reading_is_open [] (M.ret [])))) (seqM (asgM (methS "Reading" "take_word" 0 f_Reading_take_word [] (M.ret [])) (setM 1))
  (seqM (ifM (tstM (opM eqF (consM (pkM 1) (consM (dM (.str "done")) (M.ret []))))) (retM (tupM (consM (dM (.str "done")) (M.ret [])))) (M.ret .next))
  (seqM (dropM (methS "Reading" "need" 0 f_Reading_need [] (valA (callM f_is_name [] (slIn 1 (M.ret []))) (M.ret []))))
  (retM (tupM (consM (dM (.str "do")) (consM (fzM 1) (M.ret [])))))))) (M.ret .next))
  (seqM (asgM (methS "Reading" "take_head" 0 f_Reading_take_head [] (valA (M.ret (.lst [.d (.str "then"), .d (.str "if"), .d (.str "while"), .d (.str "either"), .d (.str "often")])) (M.ret []))) (setM 1))
  (seqM (asgM (lstM (consM (fzM 1) (M.ret []))) (setM 2))
  (seqM (ifM (tstM (opM (inF false) (consM (pkM 1) (consM (tupM (consM (dM (.str "if")) (consM (dM (.str "while")) (M.ret [])))) (M.ret []))))) (seqM (dropM (methS "Reading" "take" 0 f_Reading_take [] (valA (dM (.str " ")) (M.ret []))))
  (dropM (appLM 2 (methS "Reading" "take_test" 0 (f_Reading_take_test 12) [] (M.ret []))))) (M.ret .next))
  (seqM (M.bd (M.bd (consM (gdxM [("then", 2), ("if", 2), ("while", 1), ("either", 2), ("often", 1)] (fzM 1)) (M.ret [])) rng1M) (forM (setM 3) (seqM (dropM (methS "Reading" "take" 0 f_Reading_take [] (valA (dM (.str " ")) (M.ret []))))
  (dropM (appLM 2 (methS "Reading" "take_errand" 0 (f_Reading_take_errand n) [] (M.ret [])))))))
  (seqM (dropM (methS "Reading" "shut" 0 f_Reading_shut [] (M.ret [])))
  (retM (opM tupF (consM (pkM 2) (M.ret []))))))))))
def g_Reading_end : M Fl := (dropM (methS "Reading" "need" 0 f_Reading_need [] (valA (opM eqF (consM (unM (atM "Reading" "place" (pkM 0))) (consM (opM lenF (consM (unM (atM "Reading" "text" (pkM 0))) (M.ret []))) (M.ret [])))) (M.ret []))))
def f_Reading_end : Fn := runF 1 1 1 g_Reading_end
def g_read_errand : M Fl := (seqM (asgM (mkM "Reading" f_Reading_init [] (slIn 0 (valA (dM (.int 0)) (M.ret [])))) (setM 1))
  (seqM (asgM (methS "Reading" "take_errand" 1 (f_Reading_take_errand 12) [] (M.ret [])) (setM 2))
  (seqM (dropM (methS "Reading" "end" 1 f_Reading_end [] (M.ret [])))
  (retM (mvM 2)))))
def f_read_errand : Fn := runF 1 1 3 g_read_errand
def g_read_test : M Fl := (seqM (asgM (mkM "Reading" f_Reading_init [] (slIn 0 (valA (dM (.int 0)) (M.ret [])))) (setM 1))
  (seqM (asgM (methS "Reading" "take_test" 1 (f_Reading_take_test 12) [] (M.ret [])) (setM 2))
  (seqM (dropM (methS "Reading" "end" 1 f_Reading_end [] (M.ret [])))
  (retM (mvM 2)))))
def f_read_test : Fn := runF 1 1 3 g_read_test
def f_law_test_said : Nat → Fn
  | 0 => fun _ => .bad
  | n + 1 => runF 1 1 2 (seqM (ifM (tstM (opM eqF (consM (opM ixF (consM (pkM 0) (consM (dM (.int 0)) (M.ret [])))) (consM (dM (.str "ask")) (M.ret []))))) (retM (opM ixF (consM (pkM 0) (consM (dM (.int 1)) (M.ret []))))) (M.ret .next))
  (seqM (ifM (tstM (opM eqF (consM (opM lenF (consM (pkM 0) (M.ret []))) (consM (dM (.int 1)) (M.ret []))))) (retM (opM ixF (consM (pkM 0) (consM (dM (.int 0)) (M.ret []))))) (M.ret .next))
  (retM (opM addF (consM (opM addF (consM (dM (.str "(")) (consM (joinM (dM (.str " ")) (opM addF (consM (lstM (consM (opM ixF (consM (pkM 0) (consM (dM (.int 0)) (M.ret [])))) (M.ret []))) (consM (compM [1] (M.bd (opM (slF true false) (consM (pkM 0) (consM (dM (.int 1)) (M.ret [])))) itemsM) (setM 1) yesM (callM (f_law_test_said n) [] (slIn 1 (M.ret [])))) (M.ret []))))) (M.ret [])))) (consM (dM (.str ")")) (M.ret [])))))))
def f_law_errand_said : Nat → Fn
  | 0 => fun _ => .bad
  | n + 1 => runF 1 1 4 (seqM (ifM (tstM (opM eqF (consM (opM ixF (consM (pkM 0) (consM (dM (.int 0)) (M.ret [])))) (consM (dM (.str "done")) (M.ret []))))) (retM (dM (.str "done"))) (M.ret .next))
  (seqM (ifM (tstM (opM eqF (consM (opM ixF (consM (pkM 0) (consM (dM (.int 0)) (M.ret [])))) (consM (dM (.str "do")) (M.ret []))))) (retM (opM ixF (consM (pkM 0) (consM (dM (.int 1)) (M.ret []))))) (M.ret .next))
  (seqM (asgM (opM lstF (consM (opM (slF true false) (consM (pkM 0) (consM (dM (.int 1)) (M.ret [])))) (M.ret []))) (setM 1))
  (seqM (asgM (lstM (consM (opM ixF (consM (pkM 0) (consM (dM (.int 0)) (M.ret [])))) (M.ret []))) (setM 2))
  (seqM (ifM (tstM (opM (inF false) (consM (opM ixF (consM (pkM 0) (consM (dM (.int 0)) (M.ret [])))) (consM (tupM (consM (dM (.str "if")) (consM (dM (.str "while")) (M.ret [])))) (M.ret []))))) (dropM (appLM 2 (callM (f_law_test_said 12) [] (valA (popLM 1 (dM (.int 0))) (M.ret []))))) (M.ret .next))
  (retM (opM addF (consM (opM addF (consM (dM (.str "(")) (consM (joinM (dM (.str " ")) (opM addF (consM (fzM 2) (consM (compM [3] (M.bd (fzM 1) itemsM) (setM 3) yesM (callM (f_law_errand_said n) [] (slIn 3 (M.ret [])))) (M.ret []))))) (M.ret [])))) (consM (dM (.str ")")) (M.ret []))))))))))
end
end G
namespace G
open PySem PySem.Spec L2 Z
def Err.put (p : Str) : Err → Err → Err
  | .done, _ => .done
  | .doo q, i => if q = p then i else .doo q
  | .often e, i => .often (e.put p i)
  | .whl t e, i => .whl t (e.put p i)
  | .thn a b, i => .thn (a.put p i) (b.put p i)
  | .iff t a b, i => .iff t (a.put p i) (b.put p i)
  | .eth a b, i => .eth (a.put p i) (b.put p i)
end G
namespace G
open PySem PySem.Spec L2 Z
theorem Err.tst_mono {P Q : Tst → Prop} (h : ∀ t, P t → Q t) : ∀ {e : Err}, e.tst P → e.tst Q
  | .done, _ => trivial
  | .doo q, _ => trivial
  | .often e, k => Err.tst_mono h (e := e) k
  | .whl t e, k => ⟨h _ k.1, Err.tst_mono h k.2⟩
  | .thn a b, k => ⟨Err.tst_mono h k.1, Err.tst_mono h k.2⟩
  | .iff t a b, k => ⟨h _ k.1, Err.tst_mono h k.2.1, Err.tst_mono h k.2.2⟩
  | .eth a b, k => ⟨Err.tst_mono h k.1, Err.tst_mono h k.2⟩
theorem cutD_map {α β : Type} (f : α → β) (l : List α) (lo hi : Option Int) : cutD (l.map f) lo hi = (cutD l lo hi).map f := by
  unfold cutD
  simp only [List.length_map, List.map_take, List.map_drop]
end G
namespace G
open PySem PySem.Spec L2 Z
end G
namespace G
open PySem PySem.Spec L2 Z
structure Rm where
  n : Nat
  st : List Int
  mv : O
structure Rm.Ok (b : Book) (r : Rm) : Prop where
  n : r.n < 2 ^ b.asks.length
  st : ∀ e ∈ r.st, 0 ≤ e ∧ e < b.deeds.length
  len : r.st.length ≤ 3
end G
namespace G
open PySem PySem.Spec L2 Z
def natT (l : List Nat) : PyData := .tuple (l.map fun (x : Nat) => PyData.int (x : Int))
structure Wld where
  many : Nat
  moves : List (List Nat)
  yes : List (List Nat)
def Wld.d (w : Wld) : PyData := .tuple [.int w.many, .tuple (w.moves.map natT), .tuple (w.yes.map natT)]
structure Wld.OkN (m : Nat) (b : Book) (w : Wld) : Prop where
  pos : 0 < w.many
  le : w.many ≤ m
  mvL : w.moves.length = b.deeds.length
  mv : ∀ r ∈ w.moves, r.length = w.many ∧ ∀ x ∈ r, x < w.many
  yesL : w.yes.length = b.asks.length
  yes : ∀ r ∈ w.yes, r.Pairwise (· < ·) ∧ ∀ x ∈ r, x < w.many
  cap : m ≤ 200 := by decide
abbrev Wld.Ok (b : Book) (w : Wld) : Prop := Wld.OkN 6 b w
structure Fr where
  n : Nat
  st : List Int
  mv : List Nat
def Fr.d (f : Fr) : PyData := .list [.int f.n, .list (f.st.map PyData.int), .list (f.mv.map fun (x : Nat) => PyData.int (x : Int))]
end G
namespace G
open PySem PySem.Spec L2 Z
def Wld.ans (w : Wld) (x : Nat) : Nat := ((w.yes.zipIdx).map fun p => if x ∈ p.1 then 2 ^ p.2 else 0).sum
end G
namespace G
open PySem PySem.Spec L2 Z
def Wld.row (w : Wld) (p : Nat) : List Nat := w.moves.getD p []
def Wld.mv (w : Wld) (p x : Nat) : Nat := (w.row p).getD x 0
def Wld.say (w : Wld) (q x : Nat) : Bool := decide (x ∈ w.yes.getD q [])
def Fact.hold (b : Book) (w : Wld) : Fact → Nat → Bool
  | .keeps p q, x => decide (w.say (b.asks.idxOf q) x = w.say (b.asks.idxOf q) (w.mv (b.deeds.idxOf p) x))
  | .makes p q v, x => decide (w.say (b.asks.idxOf q) (w.mv (b.deeds.idxOf p) x) = v)
  | .rests p r, x => decide (w.mv (b.deeds.idxOf r) (w.mv (b.deeds.idxOf p) x) = w.mv (b.deeds.idxOf p) x)
  | .idles q v p, x => !decide (w.say (b.asks.idxOf q) x = v) || decide (w.mv (b.deeds.idxOf p) x = x)
  | .still p, x => decide (w.mv (b.deeds.idxOf p) x = x)
  | .never t, x => !(t.so b.asks (w.ans x))
def Fact.kept (b : Book) (w : Wld) (f : Fact) : Bool := (List.range w.many).all fun x => f.hold b w x
end G
namespace G
open PySem PySem.Spec L2 Z
end G
namespace G
open PySem PySem.Spec L2 Z
def dueP (b : Book) (w : Wld) : List (Fact × Nat) → PyData
  | [] => .none
  | p :: r => if p.1.kept b w then dueP b w r else .int (p.2 : Nat)
def due (b : Book) (w : Wld) : PyData := dueP b w b.facts.zipIdx
def hI (b : Book) (w : Wld) (f : Fact) (fd : PyData) (l : List Nat) (g : Gs) : Prop := ∃ o9 o10 o11 o12 o13 : Option O, (∀ x ∈ l, x < w.many) ∧ (l.all fun x => f.hold b w x) = f.kept b w ∧ g = [some (.d b.d), some (.d w.d), some (.d fd), some (.d (.tuple (b.asks.map PyData.str))), some (.d (.tuple (b.deeds.map PyData.str))), some (.d (.tuple (b.facts.map Fact.d))), some (.d (.int w.many)), some (.d (.tuple (w.moves.map natT))), some (.d (.tuple (w.yes.map natT))), o9, o10, o11, o12, o13]
end G
namespace G
open PySem PySem.Spec L2 Z
end G
namespace G
open PySem PySem.Spec L2 Z
end G
namespace G
open PySem PySem.Spec L2 Z
local instance o_srtX {o : O} {ds : List PyData} {is : List Int} [l : LsC o ds] [q : ItsC ds is] {AO : O → Prop} : Stp (optW (srtXF [o]) AO) (Sd (is.length ≤ 4000) (AO (.lst (((srtS is).map PyData.int).map O.d)))) := ⟨fun h => by
  have e : srtXF [o] = some (.lst (((srtS is).map PyData.int).map O.d)) := by
    simp only [srtXF, l.eq, q.eq, intsOf_map, h.l, if_true, List.map_map]
    rfl
  rw [e]; exact h.r⟩
end G
namespace G
open PySem PySem.Spec L2 Z
end G
namespace G
open PySem PySem.Spec L2 Z
end G
namespace G
open PySem PySem.Spec L2 Z
end G
namespace G
open PySem PySem.Spec L2 Z
end G
namespace G
open PySem PySem.Spec L2 Z
end G
namespace G
open PySem PySem.Spec L2 Z
end G
namespace G
open PySem PySem.Spec L2 Z
end G
namespace G
open PySem PySem.Spec L2 Z
class FsC (fs : List (Str × O)) (f : Str) (x : O) (fs' : outParam (List (Str × O))) : Prop where
  nd : (fs.map (·.1)).Nodup
  le : fs.length < 1000
  eq : putD fs f x = fs'
def FsK (i : Nat) (c f : Str) (AF : Fl → Gs → Prop) (o : O) (g1 : Gs) : Prop := ∃ fs fs', g1[i]? = some (some (.ins c fs)) ∧ (fs.map (·.1)).Nodup ∧ fs.length < 1000 ∧ putD fs f o = fs' ∧ AF .next (g1.set i (some (.ins c fs')))
instance s_fs {AF : Fl → Gs → Prop} {B : Exn → Gs → Prop} {i : Nat} {c f : Str} {m : M O} {g : Gs} : Stp (Wp (fsM i c f m g) AF B) (Wp (m g) (FsK i c f AF) B) := ⟨fun h => wp_fs (fs := []) (fs' := []) h⟩
instance s_fsK {AF : Fl → Gs → Prop} {i : Nat} {c f : Str} {x : O} {fs fs' : List (Str × O)} {g g' : Gs} [h : Get g i (some (.ins c fs))] [p : FsC fs f x fs'] [q : Put g i (some (.ins c fs')) g'] : Stp (FsK i c f AF x g) (AF .next g') := ⟨fun k => ⟨fs, fs', h.get, p.nd, p.le, p.eq, by rw [q.put]; exact k⟩⟩
end G
namespace G
open PySem PySem.Spec L2 Z
def taknS : List Str := ["yes", "no", "not", "and", "or", "done", "then", "if", "while", "either", "often", "asks", "deeds", "keeps", "makes", "rests", "idles", "still", "never"]
def sgB (c : Nat) : Bool := decide (97 ≤ c) && decide (c ≤ 122)
def nmB (w : Str) : Bool := decide (0 < w.length ∧ w.length ≤ 5) && !decide (w ∈ taknS) && w.cps.toList.all sgB
theorem lets_sg (c : Nat) : decide (c ∈ ("abcdefghijklmnopqrstuvwxyz" : Str).cps.toList) = sgB c := by
  rw [show ("abcdefghijklmnopqrstuvwxyz" : Str).cps.toList = [97, 98, 99, 100, 101, 102, 103, 104, 105, 106, 107, 108, 109, 110, 111, 112, 113, 114, 115, 116, 117, 118, 119, 120, 121, 122] from rfl]
  unfold sgB
  rw [Bool.eq_iff_iff]
  simp only [Bool.and_eq_true, decide_eq_true_eq, List.mem_cons, List.not_mem_nil, or_false]
  omega
theorem blsR {α : Type} (l : List α) (f : α → Bool) : (l.map fun q => O.d (.bool (f q))) = ((l.map f).map PyData.bool).map O.d := by rw [List.map_map, List.map_map]; rfl
theorem sg_signs (w : Str) : signs w = w.cps.toList.map fun c => PyData.str ⟨#[c]⟩ := rfl
theorem in_ch {neg : Bool} {c : Nat} {z : Str} {AO : O → Prop} (k : AO (.d (.bool (if neg then !decide (c ∈ z.cps.toList) else decide (c ∈ z.cps.toList))))) : optW (inF neg [.d (.str ⟨#[c]⟩), .d (.str z)]) AO := k
theorem fw_isName {w : Str} (hw : w.length ≤ 100000) {A : O → List O → Prop} {B : Exn → Prop} (k : A (.d (.bool (nmB w))) [.d (.str w)]) : FW (f_is_name [.d (.str w)]) A B := by
  have hs : (signs w).length = w.length := by simp [signs, Str.length]
  unfold f_is_name
  with_reducible refine Stp.go ?_
  unfold g_is_name
  bv_omega
  have no : ¬ (0 < w.length ∧ w.length ≤ 5) → nmB w = false := fun h => by unfold nmB; rw [decide_eq_false h]; rfl
  refine IfK.dec (fun h1 => ?_) (fun h1 => ?_)
  · bv_omega
    refine IfK.dec (fun h2 => ?_) (fun h2 => ?_)
    · have h5 : 0 < w.length ∧ w.length ≤ 5 := by omega
      bv_omega
      refine IfK.mk (fun h3 => ?_) (fun h3 => ?_)
      · have e : nmB w = false := by unfold nmB; rw [show decide (w ∈ taknS) = true from h3]; simp
        rw [e] at k
        bv_omega
        exact k
      · bv_omega
        rw [sg_signs]
        refine wp_lcF (fun c => PyData.str ⟨#[c]⟩) (fun c => .d (.bool (sgB c))) (fun c hc => ?_) ?_
        · bv_omega
          refine in_ch (neg := false) ?_
          rw [show (if false = true then !decide (c ∈ ("abcdefghijklmnopqrstuvwxyz" : Str).cps.toList) else decide (c ∈ ("abcdefghijklmnopqrstuvwxyz" : Str).cps.toList)) = sgB c from lets_sg c]
          bv_omega
          trivial
        rw [List.nil_append, blsR]
        bv_omega
        rw [List.all_map]
        have e : nmB w = w.cps.toList.all sgB := by unfold nmB; rw [show decide (w ∈ taknS) = false from h3, decide_eq_true h5]; rfl
        rw [e] at k
        exact k
    · rw [no (by omega)] at k
      bv_omega
      exact k
  · rw [no (by omega)] at k
    bv_omega
    exact k
theorem nm_ok {z : Str} (h : NmOk z) : nmB z = true := by
  unfold nmB
  rw [decide_eq_true ⟨h.pos, h.le⟩, decide_eq_false (show z ∉ taknS from h.free)]
  simp only [Bool.not_false, Bool.true_and, List.all_eq_true]
  intro c hc
  rw [← lets_sg]
  exact decide_eq_true (h.low c hc)
@[reducible] def rdI (T : Str) (r p d : Int) : O := .ins "Reading" [("text", .d (.str T)), ("row_number", .d (.int r)), ("place", .d (.int p)), ("deep", .d (.int d))]
section
variable {a b c e x : O}
instance rdf_a : FdC [("text", a), ("row_number", b), ("place", c), ("deep", e)] "text" a := ⟨0, by with_unfolding_all rfl, rfl⟩
instance rdf_b : FdC [("text", a), ("row_number", b), ("place", c), ("deep", e)] "row_number" b := ⟨1, by with_unfolding_all rfl, rfl⟩
instance rdf_c : FdC [("text", a), ("row_number", b), ("place", c), ("deep", e)] "place" c := ⟨2, by with_unfolding_all rfl, rfl⟩
instance rdf_e : FdC [("text", a), ("row_number", b), ("place", c), ("deep", e)] "deep" e := ⟨3, by with_unfolding_all rfl, rfl⟩
instance rds_0 : FsC [] "text" x [("text", x)] := ⟨by show ([] : List Str).Nodup; with_unfolding_all decide, by show 0 < 1000; decide, by with_unfolding_all rfl⟩
instance rds_1 : FsC [("text", a)] "row_number" x [("text", a), ("row_number", x)] := ⟨by show (["text"] : List Str).Nodup; with_unfolding_all decide, by show 1 < 1000; decide, by with_unfolding_all rfl⟩
instance rds_2 : FsC [("text", a), ("row_number", b)] "place" x [("text", a), ("row_number", b), ("place", x)] := ⟨by show (["text", "row_number"] : List Str).Nodup; with_unfolding_all decide, by show 2 < 1000; decide, by with_unfolding_all rfl⟩
instance rds_3 : FsC [("text", a), ("row_number", b), ("place", c)] "deep" x [("text", a), ("row_number", b), ("place", c), ("deep", x)] := ⟨by show (["text", "row_number", "place"] : List Str).Nodup; with_unfolding_all decide, by show 3 < 1000; decide, by with_unfolding_all rfl⟩
instance rdi_0 : InsC "Reading" "need" (.ins "Reading" [("text", a), ("row_number", b), ("place", c), ("deep", e)]) := ⟨by with_unfolding_all rfl⟩
instance rdi_1 : InsC "Reading" "take" (.ins "Reading" [("text", a), ("row_number", b), ("place", c), ("deep", e)]) := ⟨by with_unfolding_all rfl⟩
instance rdi_2 : InsC "Reading" "take_word" (.ins "Reading" [("text", a), ("row_number", b), ("place", c), ("deep", e)]) := ⟨by with_unfolding_all rfl⟩
instance rdi_3 : InsC "Reading" "take_head" (.ins "Reading" [("text", a), ("row_number", b), ("place", c), ("deep", e)]) := ⟨by with_unfolding_all rfl⟩
instance rdi_4 : InsC "Reading" "shut" (.ins "Reading" [("text", a), ("row_number", b), ("place", c), ("deep", e)]) := ⟨by with_unfolding_all rfl⟩
instance rdi_5 : InsC "Reading" "is_open" (.ins "Reading" [("text", a), ("row_number", b), ("place", c), ("deep", e)]) := ⟨by with_unfolding_all rfl⟩
instance rdi_6 : InsC "Reading" "take_test" (.ins "Reading" [("text", a), ("row_number", b), ("place", c), ("deep", e)]) := ⟨by with_unfolding_all rfl⟩
instance rdi_7 : InsC "Reading" "take_errand" (.ins "Reading" [("text", a), ("row_number", b), ("place", c), ("deep", e)]) := ⟨by with_unfolding_all rfl⟩
instance rdi_8 : InsC "Reading" "end" (.ins "Reading" [("text", a), ("row_number", b), ("place", c), ("deep", e)]) := ⟨by with_unfolding_all rfl⟩
instance rda_p {n k : Int} : FsA "Reading" [("text", a), ("row_number", b), ("place", .d (.int n)), ("deep", e)] "place" k [("text", a), ("row_number", b), ("place", .d (.int (n + k))), ("deep", e)] := ⟨by show (["text", "row_number", "place", "deep"] : List Str).Nodup; with_unfolding_all decide, by show 4 < 1000; decide, ⟨n, by with_unfolding_all rfl, by with_unfolding_all rfl⟩⟩
instance rda_d {n k : Int} : FsA "Reading" [("text", a), ("row_number", b), ("place", c), ("deep", .d (.int n))] "deep" k [("text", a), ("row_number", b), ("place", c), ("deep", .d (.int (n + k)))] := ⟨by show (["text", "row_number", "place", "deep"] : List Str).Nodup; with_unfolding_all decide, by show 4 < 1000; decide, ⟨n, by with_unfolding_all rfl, by with_unfolding_all rfl⟩⟩
end
section
variable {T : Str} {r : Int} {p d : Nat} {A : O → List O → Prop} {B : Exn → Prop}
theorem fw_rdInit (k : A (.d .none) [rdI T r 0 0, .d (.str T), .d (.int r)]) : FW (f_Reading_init [.ins "Reading" [], .d (.str T), .d (.int r)]) A B := by
  unfold f_Reading_init
  with_reducible refine Stp.go ?_
  unfold g_Reading_init
  bv_omega
  exact k
theorem fw_rneed (k : A (.d .none) [rdI T r p d, .d (.bool true)]) : FW (f_Reading_need [rdI T r p d, .d (.bool true)]) A B := by
  unfold f_Reading_need
  with_reducible refine Stp.go ?_
  unfold g_Reading_need
  bv_omega
  exact k
theorem sIx_nat {n : Nat} {e : Nat} {i : Nat} (h : i ≤ n) : HT.sIx n e (some (i : Int)) = i := by
  unfold HT.sIx
  simp only
  rw [if_neg (by omega)]
  omega
theorem cut_of {w rest : List Nat} (h : T.cps.toList.drop p = w ++ rest) (hp : p ≤ T.length) : cutS T (some p) (some ((p + w.length : Nat) : Int)) = ⟨w.toArray⟩ := by
  have hl : T.cps.toList.length = T.length := by simp [Str.length]
  have h2 := congrArg List.length h
  rw [List.length_drop, List.length_append, hl] at h2
  unfold cutS
  rw [sIx_nat hp, sIx_nat (by omega), h, Nat.add_sub_cancel_left, List.take_left]
theorem cut0 (h : T.cps.toList.drop p = []) (hp : p ≤ T.length) : cutS T (some p) (some ((p : Int) + 1)) = ⟨#[]⟩ := by
  unfold cutS
  rw [sIx_nat hp, h, List.take_nil]
theorem drop_le {w : List Nat} (h : T.cps.toList.drop p = w) (hw : w ≠ []) : p ≤ T.length := by
  have hl : T.cps.toList.length = T.length := by simp [Str.length]
  refine Classical.byContradiction fun hn => hw ?_
  rw [← h]
  exact List.drop_eq_nil_of_le (by omega)
theorem cut1R {c : Nat} {rest : List Nat} (h : T.cps.toList.drop p = c :: rest) : cutS T (some p) (some ((p : Int) + 1)) = ⟨#[c]⟩ :=
  cut_of (w := [c]) h (drop_le h (by simp))
theorem fw_isOpen {b : Bool} (hT : T.length ≤ 100000) (hp : p ≤ T.length) (hb : (T.cps.toList.drop p).head? = some 40 ↔ b = true) (k : A (.d (.bool b)) [rdI T r p d]) : FW (f_Reading_is_open [rdI T r p d]) A B := by
  have e : decide (cutS T (some p) (some ((p : Int) + 1)) = ("(" : Str)) = b := by
    cases h : T.cps.toList.drop p with
    | nil =>
      rw [cut0 h hp]
      rw [h] at hb
      cases b with
      | false => rfl
      | true => exact absurd (hb.mpr rfl) (by simp)
    | cons c r =>
      rw [cut1R h]
      rw [h] at hb
      rw [Bool.eq_iff_iff, decide_eq_true_iff, ← hb, show ("(" : Str) = ⟨#[40]⟩ from rfl]
      simp
  unfold f_Reading_is_open
  with_reducible refine Stp.go ?_
  unfold g_Reading_is_open
  bv_omega
  rw [e]
  exact k
/-- signs that end a word -/
def stp (c : Nat) : Prop := c = 32 ∨ c = 40 ∨ c = 41
instance stp_dec (c : Nat) : Decidable (stp c) := by unfold stp; exact inferInstance
def Stop (l : List Nat) : Prop := l = [] ∨ ∃ c r, l = c :: r ∧ stp c
theorem stp_in (c : Nat) : c ∈ (" ()" : Str).cps.toList ↔ stp c := by
  rw [show (" ()" : Str).cps.toList = [32, 40, 41] from rfl]
  simp [stp]
theorem at_sign {i : Nat} (h : i < T.length) : atI T.cps.toList (i : Int) = some (T.cps.toList[i]'(by simpa [Str.length] using h)) := by
  have hl : T.cps.toList.length = T.length := by simp [Str.length]
  unfold atI ixN
  rw [if_pos (by omega), if_pos (by omega)]
  show T.cps.toList[(i : Int).toNat]? = _
  rw [Int.toNat_natCast, List.getElem?_eq_getElem]
theorem ix_sg {i : Nat} (hT : T.length ≤ 100000) (h : i < T.length) {AO : O → Prop} (k : AO (.d (.str ⟨#[T.cps.toList[i]'(by simpa [Str.length] using h)]⟩))) : optW (ixF [.d (.str T), .d (.int (i : Nat))]) AO := by
  have e : ixF [.d (.str T), .d (.int (i : Nat))] = some (.d (.str ⟨#[T.cps.toList[i]'(by simpa [Str.length] using h)]⟩)) := by
    unfold ixF
    simp only [lenOk_of (show T.length ≤ 16777216 by omega), if_true, at_sign h]
  rw [e]; exact k
theorem fw_takeWord {w rest : List Nat} (hT : T.length ≤ 100000) (h : T.cps.toList.drop p = w ++ rest) (hp : p ≤ T.length) (hw : ∀ c ∈ w, ¬ stp c) (hr : Stop rest) (k : A (.d (.str ⟨w.toArray⟩)) [rdI T r ((p + w.length : Nat) : Int) d]) : FW (f_Reading_take_word [rdI T r p d]) A B := by
  have hl : T.cps.toList.length = T.length := by simp [Str.length]
  have h2 := congrArg List.length h
  rw [List.length_drop, List.length_append, hl] at h2
  have hc := cut_of h hp
  unfold f_Reading_take_word
  with_reducible refine Stp.go ?_
  unfold g_Reading_take_word
  bv_omega
  refine wp_whI (fun j g => ∃ n : Nat, n ≤ w.length ∧ j = w.length - n ∧ g = [some (rdI T r ((p + n : Nat) : Int) d), some (.d (.int p))]) ?_ (k := w.length) (by omega) ⟨0, Nat.zero_le _, rfl, rfl⟩
  rintro j g ⟨n, hn, ej, eg⟩
  subst eg
  bv_omega
  refine IfK.dec (fun h3 => ?_) (fun h3 => ?_)
  · have hlt : p + n < T.length := by omega
    have hd : T.cps.toList[p + n]? = (w ++ rest)[n]? := by rw [← h, List.getElem?_drop]
    have hg : T.cps.toList[p + n]? = some (T.cps.toList[p + n]'(by omega)) := List.getElem?_eq_getElem (by omega)
    obtain ⟨c, ec⟩ : ∃ c, T.cps.toList[p + n]'(by omega) = c := ⟨_, rfl⟩
    rw [hg, ec] at hd
    bv_omega
    refine ix_sg hT hlt ?_
    rw [ec]
    bv_omega
    refine in_ch (neg := true) ?_
    bv_omega
    by_cases hn2 : n < w.length
    · rw [List.getElem?_append_left hn2] at hd
      have hcw : ¬ stp c := hw c (List.mem_of_getElem? hd.symm)
      have e1 : (if true = true then !decide (c ∈ (" ()" : Str).cps.toList) else decide (c ∈ (" ()" : Str).cps.toList)) = true := by
        rw [if_pos rfl, decide_eq_false (fun q => hcw ((stp_in c).mp q))]
        rfl
      rw [e1]
      bv_omega
      exact ⟨w.length - (n + 1), by omega, n + 1, by omega, rfl, rfl⟩
    · have en : n = w.length := by omega
      have hcs : stp c := by
        rw [List.getElem?_append_right (by omega), show n - w.length = 0 by omega] at hd
        rcases hr with hr | ⟨c', r', hr, hs⟩
        · rw [hr] at hd; cases hd
        · rw [hr] at hd
          cases hd
          exact hs
      have e1 : (if true = true then !decide (c ∈ (" ()" : Str).cps.toList) else decide (c ∈ (" ()" : Str).cps.toList)) = false := by
        rw [if_pos rfl, decide_eq_true ((stp_in c).mpr hcs)]
        rfl
      rw [e1]
      bv_omega
      rw [en, hc]
      exact k
  · have en : n = w.length := by omega
    bv_omega
    rw [en, hc]
    exact k
end
def L (s : Str) : List Nat := s.cps.toList
def nodT (w : Str) (xs : List (List Nat)) : List Nat := 40 :: (L w ++ (xs.flatMap fun x => 32 :: x) ++ [41])
def tT : Tst → List Nat
  | .yes => L "yes"
  | .no => L "no"
  | .ask q => L q
  | .not t => nodT "not" [tT t]
  | .and a b => nodT "and" [tT a, tT b]
  | .or a b => nodT "or" [tT a, tT b]
def tE : Err → List Nat
  | .done => L "done"
  | .doo p => L p
  | .often u => nodT "often" [tE u]
  | .whl t u => nodT "while" [tT t, tE u]
  | .thn u v => nodT "then" [tE u, tE v]
  | .iff t u v => nodT "if" [tT t, tE u, tE v]
  | .eth u v => nodT "either" [tE u, tE v]
/-- brackets within one another -/
def brE : Err → Nat
  | .done => 0
  | .doo _ => 0
  | .often u => brE u + 1
  | .whl t u => max (t.deep - 1) (brE u) + 1
  | .thn u v => max (brE u) (brE v) + 1
  | .iff t u v => max (t.deep - 1) (max (brE u) (brE v)) + 1
  | .eth u v => max (brE u) (brE v) + 1
theorem drop_add {T : Str} {p : Nat} {a b : List Nat} (h : T.cps.toList.drop p = a ++ b) : T.cps.toList.drop (p + a.length) = b := by rw [← List.drop_drop, h, List.drop_left]
theorem tst_pos (t : Tst) : 1 ≤ t.deep := by cases t <;> simp only [Tst.deep] <;> omega
theorem str_L (z : Str) : (⟨(L z).toArray⟩ : Str) = z := by
  unfold L
  rw [Array.toArray_toList]
section
variable {qs : List Str}
theorem str_ext {a b : Str} (h : a.cps.toList = b.cps.toList) : a = b := by
  obtain ⟨a⟩ := a
  obtain ⟨b⟩ := b
  exact congrArg Str.mk (Array.toList_inj.mp h)
theorem app_L (a b : Str) : (a ++ b).cps.toList = a.cps.toList ++ b.cps.toList := Array.toList_append
theorem glu_L (sep : Str) : ∀ (rest : List Str) (acc : Array Nat), (rest.foldl (fun acc p => acc ++ sep.cps ++ p.cps) acc).toList = acc.toList ++ rest.flatMap fun p => sep.cps.toList ++ p.cps.toList
  | [], acc => by simp
  | p :: r, acc => by
    rw [List.foldl_cons, glu_L sep r]
    simp
theorem join_node (w : Str) (xs : List (List Nat)) : (("(" : Str) ++ Txt.join " " (w :: xs.map fun x => ⟨x.toArray⟩)) ++ (")" : Str) = ⟨(nodT w xs).toArray⟩ := by
  refine str_ext ?_
  rw [app_L, app_L]
  have e : (Txt.join " " (w :: xs.map fun x => (⟨x.toArray⟩ : Str))).cps.toList = w.cps.toList ++ (xs.map fun x => (⟨x.toArray⟩ : Str)).flatMap fun p => (" " : Str).cps.toList ++ p.cps.toList := glu_L " " _ _
  rw [e, show ("(" : Str).cps.toList = [40] from rfl, show (")" : Str).cps.toList = [41] from rfl, show (" " : Str).cps.toList = [32] from rfl]
  have e2 : ((xs.map fun x => (⟨x.toArray⟩ : Str)).flatMap fun p => [32] ++ p.cps.toList) = xs.flatMap fun x => 32 :: x := by
    rw [List.flatMap_map]
    rfl
  rw [e2]
  unfold nodT L
  simp
theorem fw_testSaid : ∀ {n : Nat} {t : Tst} {A : O → List O → Prop} {B : Exn → Prop}, t.deep ≤ n → t.over qs → (∀ q ∈ qs, NmOk q) → (tT t).length ≤ 100000 → A (.d (.str ⟨(tT t).toArray⟩)) [.d t.d] → FW (f_law_test_said n [.d t.d]) A B
  | 0, t, _, _, h, _, _, _, _ => by cases t <;> simp [Tst.deep] at h
  | n + 1, t, A, B, hn, ho, hq, hl, k => by
    have ih := @fw_testSaid n
    unfold f_law_test_said
    with_reducible refine Stp.go ?_
    cases t with
    | yes =>
      unfold Tst.d at k ⊢
      bv_omega
      exact k
    | no =>
      unfold Tst.d at k ⊢
      bv_omega
      exact k
    | ask q =>
      rw [show (⟨(tT (.ask q)).toArray⟩ : Str) = q from str_L q] at k
      unfold Tst.d at k ⊢
      bv_omega
      exact k
    | not u =>
      have hz : (tT (.not u)).length = (L "not").length + 2 + (1 + (tT u).length) := by simp [tT, nodT]; omega
      have hwl : (L "not").length ≤ 10 := by decide +kernel
      have hl_u : (⟨(tT u).toArray⟩ : Str).length = (tT u).length := by simp [Str.length]
      have hw : ("not" : Str).length ≤ 10 := by decide +kernel
      have hsp : (" " : Str).length = 1 := by decide +kernel
      have hj := join_node "not" [tT u]
      have hj : (("(" : Str) ++ Txt.join " " ["not", ⟨(tT u).toArray⟩]) ++ (")" : Str) = ⟨(tT (.not u)).toArray⟩ := hj
      have hjl : ("(" : Str).length + (Txt.join " " ["not", ⟨(tT u).toArray⟩]).length + (")" : Str).length = (tT (.not u)).length := by
        have := congrArg Str.length hj
        rw [len_app, len_app] at this
        rw [this]
        simp [Str.length]
      simp only [Tst.deep] at hn
      unfold Tst.d at k ⊢
      bv_omega
      refine IfK.df (by simp only [List.length_cons, List.length_nil]; omega) ?_
      bv_omega
      refine ih (by omega) (show u.over qs from ho) hq (by omega) ?_
      bv_omega
      refine Sd.mk (by simp only [List.map_cons, List.map_nil, List.sum_cons, List.sum_nil, List.length_cons, List.length_nil]; omega) ?_
      bv_omega
      rw [hj]
      exact k
    | and u v =>
      have hz : (tT (.and u v)).length = (L "and").length + 2 + (1 + (tT u).length) + (1 + (tT v).length) := by simp [tT, nodT]; omega
      have hwl : (L "and").length ≤ 10 := by decide +kernel
      have hl_u : (⟨(tT u).toArray⟩ : Str).length = (tT u).length := by simp [Str.length]
      have hl_v : (⟨(tT v).toArray⟩ : Str).length = (tT v).length := by simp [Str.length]
      have hw : ("and" : Str).length ≤ 10 := by decide +kernel
      have hsp : (" " : Str).length = 1 := by decide +kernel
      have hj := join_node "and" [tT u, tT v]
      have hj : (("(" : Str) ++ Txt.join " " ["and", ⟨(tT u).toArray⟩, ⟨(tT v).toArray⟩]) ++ (")" : Str) = ⟨(tT (.and u v)).toArray⟩ := hj
      have hjl : ("(" : Str).length + (Txt.join " " ["and", ⟨(tT u).toArray⟩, ⟨(tT v).toArray⟩]).length + (")" : Str).length = (tT (.and u v)).length := by
        have := congrArg Str.length hj
        rw [len_app, len_app] at this
        rw [this]
        simp [Str.length]
      simp only [Tst.deep] at hn
      unfold Tst.d at k ⊢
      bv_omega
      refine IfK.df (by simp only [List.length_cons, List.length_nil]; omega) ?_
      bv_omega
      refine ih (by omega) ho.1 hq (by omega) ?_
      bv_omega
      refine ih (by omega) ho.2 hq (by omega) ?_
      bv_omega
      refine Sd.mk (by simp only [List.map_cons, List.map_nil, List.sum_cons, List.sum_nil, List.length_cons, List.length_nil]; omega) ?_
      bv_omega
      rw [hj]
      exact k
    | or u v =>
      have hz : (tT (.or u v)).length = (L "or").length + 2 + (1 + (tT u).length) + (1 + (tT v).length) := by simp [tT, nodT]; omega
      have hwl : (L "or").length ≤ 10 := by decide +kernel
      have hl_u : (⟨(tT u).toArray⟩ : Str).length = (tT u).length := by simp [Str.length]
      have hl_v : (⟨(tT v).toArray⟩ : Str).length = (tT v).length := by simp [Str.length]
      have hw : ("or" : Str).length ≤ 10 := by decide +kernel
      have hsp : (" " : Str).length = 1 := by decide +kernel
      have hj := join_node "or" [tT u, tT v]
      have hj : (("(" : Str) ++ Txt.join " " ["or", ⟨(tT u).toArray⟩, ⟨(tT v).toArray⟩]) ++ (")" : Str) = ⟨(tT (.or u v)).toArray⟩ := hj
      have hjl : ("(" : Str).length + (Txt.join " " ["or", ⟨(tT u).toArray⟩, ⟨(tT v).toArray⟩]).length + (")" : Str).length = (tT (.or u v)).length := by
        have := congrArg Str.length hj
        rw [len_app, len_app] at this
        rw [this]
        simp [Str.length]
      simp only [Tst.deep] at hn
      unfold Tst.d at k ⊢
      bv_omega
      refine IfK.df (by simp only [List.length_cons, List.length_nil]; omega) ?_
      bv_omega
      refine ih (by omega) ho.1 hq (by omega) ?_
      bv_omega
      refine ih (by omega) ho.2 hq (by omega) ?_
      bv_omega
      refine Sd.mk (by simp only [List.map_cons, List.map_nil, List.sum_cons, List.sum_nil, List.length_cons, List.length_nil]; omega) ?_
      bv_omega
      rw [hj]
      exact k
theorem fw_errandSaid {ps : List Str} : ∀ {n : Nat} {t : Err} {A : O → List O → Prop} {B : Exn → Prop}, t.deep ≤ n → t.over qs ps → (∀ q ∈ qs, NmOk q) → (tE t).length ≤ 100000 → t.tst (fun t => t.deep ≤ 12) → A (.d (.str ⟨(tE t).toArray⟩)) [.d t.d] → FW (f_law_errand_said n [.d t.d]) A B
  | 0, t, _, _, h, _, _, _, _, _ => by cases t <;> simp [Err.deep] at h
  | n + 1, t, A, B, hn, ho, hq, hl, ht, k => by
    have ih := @fw_errandSaid ps n
    unfold f_law_errand_said
    with_reducible refine Stp.go ?_
    cases t with
    | done =>
      unfold Err.d at k ⊢
      bv_omega
      exact k
    | doo q =>
      rw [show (⟨(tE (.doo q)).toArray⟩ : Str) = q from str_L q] at k
      unfold Err.d at k ⊢
      bv_omega
      exact k
    | often u =>
      have hz : (tE (.often u)).length = (L "often").length + 2 + (1 + (tE u).length) := by simp [tE, nodT]; omega
      have hwl : (L "often").length ≤ 10 := by decide +kernel
      have hl_u : (⟨(tE u).toArray⟩ : Str).length = (tE u).length := by simp [Str.length]
      have hw : ("often" : Str).length ≤ 10 := by decide +kernel
      have hsp : (" " : Str).length = 1 := by decide +kernel
      have hj := join_node "often" [tE u]
      have hj : (("(" : Str) ++ Txt.join " " ["often", ⟨(tE u).toArray⟩]) ++ (")" : Str) = ⟨(tE (.often u)).toArray⟩ := hj
      have hjl : ("(" : Str).length + (Txt.join " " ["often", ⟨(tE u).toArray⟩]).length + (")" : Str).length = (tE (.often u)).length := by
        have := congrArg Str.length hj
        rw [len_app, len_app] at this
        rw [this]
        simp [Str.length]
      simp only [Err.deep] at hn
      unfold Err.d at k ⊢
      bv_omega
      refine ih (by omega) (show u.over qs ps from ho) hq (by omega) (show u.tst _ from ht) ?_
      bv_omega
      refine Sd.mk (by simp only [List.map_cons, List.map_nil, List.sum_cons, List.sum_nil, List.length_cons, List.length_nil]; omega) ?_
      bv_omega
      rw [hj]
      exact k
    | whl t u =>
      have hz : (tE (.whl t u)).length = (L "while").length + 2 + (1 + (tT t).length) + (1 + (tE u).length) := by simp [tE, nodT]; omega
      have hwl : (L "while").length ≤ 10 := by decide +kernel
      have hl_t : (⟨(tT t).toArray⟩ : Str).length = (tT t).length := by simp [Str.length]
      have hl_u : (⟨(tE u).toArray⟩ : Str).length = (tE u).length := by simp [Str.length]
      have hw : ("while" : Str).length ≤ 10 := by decide +kernel
      have hsp : (" " : Str).length = 1 := by decide +kernel
      have hj := join_node "while" [tT t, tE u]
      have hj : (("(" : Str) ++ Txt.join " " ["while", ⟨(tT t).toArray⟩, ⟨(tE u).toArray⟩]) ++ (")" : Str) = ⟨(tE (.whl t u)).toArray⟩ := hj
      have hjl : ("(" : Str).length + (Txt.join " " ["while", ⟨(tT t).toArray⟩, ⟨(tE u).toArray⟩]).length + (")" : Str).length = (tE (.whl t u)).length := by
        have := congrArg Str.length hj
        rw [len_app, len_app] at this
        rw [this]
        simp [Str.length]
      simp only [Err.deep] at hn
      unfold Err.d at k ⊢
      bv_omega
      refine fw_testSaid ht.1 ho.1 hq (by omega) ?_
      bv_omega
      refine ih (by omega) ho.2 hq (by omega) ht.2 ?_
      bv_omega
      refine Sd.mk (by simp only [List.map_cons, List.map_nil, List.sum_cons, List.sum_nil, List.length_cons, List.length_nil]; omega) ?_
      bv_omega
      rw [hj]
      exact k
    | thn u v =>
      have hz : (tE (.thn u v)).length = (L "then").length + 2 + (1 + (tE u).length) + (1 + (tE v).length) := by simp [tE, nodT]; omega
      have hwl : (L "then").length ≤ 10 := by decide +kernel
      have hl_u : (⟨(tE u).toArray⟩ : Str).length = (tE u).length := by simp [Str.length]
      have hl_v : (⟨(tE v).toArray⟩ : Str).length = (tE v).length := by simp [Str.length]
      have hw : ("then" : Str).length ≤ 10 := by decide +kernel
      have hsp : (" " : Str).length = 1 := by decide +kernel
      have hj := join_node "then" [tE u, tE v]
      have hj : (("(" : Str) ++ Txt.join " " ["then", ⟨(tE u).toArray⟩, ⟨(tE v).toArray⟩]) ++ (")" : Str) = ⟨(tE (.thn u v)).toArray⟩ := hj
      have hjl : ("(" : Str).length + (Txt.join " " ["then", ⟨(tE u).toArray⟩, ⟨(tE v).toArray⟩]).length + (")" : Str).length = (tE (.thn u v)).length := by
        have := congrArg Str.length hj
        rw [len_app, len_app] at this
        rw [this]
        simp [Str.length]
      simp only [Err.deep] at hn
      unfold Err.d at k ⊢
      bv_omega
      refine ih (by omega) ho.1 hq (by omega) ht.1 ?_
      bv_omega
      refine ih (by omega) ho.2 hq (by omega) ht.2 ?_
      bv_omega
      refine Sd.mk (by simp only [List.map_cons, List.map_nil, List.sum_cons, List.sum_nil, List.length_cons, List.length_nil]; omega) ?_
      bv_omega
      rw [hj]
      exact k
    | iff t u v =>
      have hz : (tE (.iff t u v)).length = (L "if").length + 2 + (1 + (tT t).length) + (1 + (tE u).length) + (1 + (tE v).length) := by simp [tE, nodT]; omega
      have hwl : (L "if").length ≤ 10 := by decide +kernel
      have hl_t : (⟨(tT t).toArray⟩ : Str).length = (tT t).length := by simp [Str.length]
      have hl_u : (⟨(tE u).toArray⟩ : Str).length = (tE u).length := by simp [Str.length]
      have hl_v : (⟨(tE v).toArray⟩ : Str).length = (tE v).length := by simp [Str.length]
      have hw : ("if" : Str).length ≤ 10 := by decide +kernel
      have hsp : (" " : Str).length = 1 := by decide +kernel
      have hj := join_node "if" [tT t, tE u, tE v]
      have hj : (("(" : Str) ++ Txt.join " " ["if", ⟨(tT t).toArray⟩, ⟨(tE u).toArray⟩, ⟨(tE v).toArray⟩]) ++ (")" : Str) = ⟨(tE (.iff t u v)).toArray⟩ := hj
      have hjl : ("(" : Str).length + (Txt.join " " ["if", ⟨(tT t).toArray⟩, ⟨(tE u).toArray⟩, ⟨(tE v).toArray⟩]).length + (")" : Str).length = (tE (.iff t u v)).length := by
        have := congrArg Str.length hj
        rw [len_app, len_app] at this
        rw [this]
        simp [Str.length]
      simp only [Err.deep] at hn
      unfold Err.d at k ⊢
      bv_omega
      refine fw_testSaid ht.1 ho.1 hq (by omega) ?_
      bv_omega
      refine ih (by omega) ho.2.1 hq (by omega) ht.2.1 ?_
      bv_omega
      refine ih (by omega) ho.2.2 hq (by omega) ht.2.2 ?_
      bv_omega
      refine Sd.mk (by simp only [List.map_cons, List.map_nil, List.sum_cons, List.sum_nil, List.length_cons, List.length_nil]; omega) ?_
      bv_omega
      rw [hj]
      exact k
    | eth u v =>
      have hz : (tE (.eth u v)).length = (L "either").length + 2 + (1 + (tE u).length) + (1 + (tE v).length) := by simp [tE, nodT]; omega
      have hwl : (L "either").length ≤ 10 := by decide +kernel
      have hl_u : (⟨(tE u).toArray⟩ : Str).length = (tE u).length := by simp [Str.length]
      have hl_v : (⟨(tE v).toArray⟩ : Str).length = (tE v).length := by simp [Str.length]
      have hw : ("either" : Str).length ≤ 10 := by decide +kernel
      have hsp : (" " : Str).length = 1 := by decide +kernel
      have hj := join_node "either" [tE u, tE v]
      have hj : (("(" : Str) ++ Txt.join " " ["either", ⟨(tE u).toArray⟩, ⟨(tE v).toArray⟩]) ++ (")" : Str) = ⟨(tE (.eth u v)).toArray⟩ := hj
      have hjl : ("(" : Str).length + (Txt.join " " ["either", ⟨(tE u).toArray⟩, ⟨(tE v).toArray⟩]).length + (")" : Str).length = (tE (.eth u v)).length := by
        have := congrArg Str.length hj
        rw [len_app, len_app] at this
        rw [this]
        simp [Str.length]
      simp only [Err.deep] at hn
      unfold Err.d at k ⊢
      bv_omega
      refine ih (by omega) ho.1 hq (by omega) ht.1 ?_
      bv_omega
      refine ih (by omega) ho.2 hq (by omega) ht.2 ?_
      bv_omega
      refine Sd.mk (by simp only [List.map_cons, List.map_nil, List.sum_cons, List.sum_nil, List.length_cons, List.length_nil]; omega) ?_
      bv_omega
      rw [hj]
      exact k
end
end G
namespace G
open PySem PySem.Spec L2 Z
noncomputable section
def g_law_is_name : M Fl := (seqM (ifM (tstM (opM (inF false) (consM (fzM 0) (consM (callM G.f_law_taken [] (M.ret [])) (M.ret []))))) (retM (dM (.bool false))) (M.ret .next))
  (retM (andV (chM ltF ltF (dM (.int 0)) (opM lenF (consM (pkM 0) (M.ret []))) (dM (.int 6))) (opM allF (consM (compM [1] (M.bd (fzM 0) itemsM) (setM 1) yesM (opM (inF false) (consM (pkM 1) (consM (dM (.str "abcdefghijklmnopqrstuvwxyz")) (M.ret []))))) (M.ret []))))))
def f_law_is_name : Fn := runF 1 1 2 g_law_is_name
def g_law_is_part : M Fl := (seqM (ifM (tstM (opM eqF (consM (pkM 1) (consM (dM (.str "t")) (M.ret []))))) (retM (orV (opM (inF false) (consM (pkM 0) (consM (tupM (consM (dM (.str "yes")) (consM (dM (.str "no")) (consM (dM (.str "~t")) (M.ret []))))) (M.ret [])))) (callM f_law_is_name [] (slIn 0 (M.ret []))))) (M.ret .next))
  (retM (orV (opM (inF false) (consM (pkM 0) (consM (tupM (consM (dM (.str "done")) (consM (dM (.str "~e")) (M.ret [])))) (M.ret [])))) (callM f_law_is_name [] (slIn 0 (M.ret []))))))
def f_law_is_part : Fn := runF 2 2 2 g_law_is_part
def g_law_bracket : M Fl := (seqM (asgM (splM (rdM 0) (dM (.str " "))) (setM 1))
  (seqM (asgM (dispVM ["not", "and", "or", "then", "either", "if"] (consM (dM (.str "t")) (consM (dM (.str "tt")) (consM (dM (.str "tt")) (consM (dM (.str "ee")) (consM (dM (.str "ee")) (consM (dM (.str "tee")) (M.ret [])))))))) (setM 2))
  (seqM (dropM (updHM 2 (plN 2) (lkVM (dispVM ["while", "often"] (consM (dM (.str "te")) (consM (dM (.str "e")) (M.ret [])))))))
  (seqM (asgM (getM (pkM 2) (opM ixF (consM (pkM 1) (consM (dM (.int 0)) (M.ret [])))) (dM (.str ""))) (setM 3))
  (seqM (ifM (orZ (tstM (opM eqF (consM (pkM 3) (consM (dM (.str "")) (M.ret []))))) (tstM (opM neF (consM (opM lenF (consM (pkM 1) (M.ret []))) (consM (opM addF (consM (dM (.int 1)) (consM (opM lenF (consM (pkM 3) (M.ret []))) (M.ret [])))) (M.ret [])))))) (retM (dM (.str ""))) (M.ret .next))
  (seqM (ifM (notZ (tstM (opM allF (consM (compM [4, 5] (M.bd (consM (frzM (opM (slF true false) (consM (pkM 1) (consM (dM (.int 1)) (M.ret []))))) (consM (fzM 3) (M.ret []))) zsM) (tupG (consG 4 (consG 5 nilG))) yesM (callM f_law_is_part [] (slIn 4 (slIn 5 (M.ret []))))) (M.ret []))))) (retM (dM (.str ""))) (M.ret .next))
  (retM (opM ixF (consM (lstM (consM (dM (.str "~e")) (consM (dM (.str "~t")) (M.ret [])))) (consM (opM intF (consM (opM (inF false) (consM (opM ixF (consM (pkM 1) (consM (dM (.int 0)) (M.ret [])))) (consM (tupM (consM (dM (.str "not")) (consM (dM (.str "and")) (consM (dM (.str "or")) (M.ret []))))) (M.ret [])))) (M.ret []))) (M.ret [])))))))))))
def f_law_bracket : Fn := runF 1 1 6 g_law_bracket
def g_law_told : M Fl := (seqM (asgM (dM (.int 0)) (setM 2))
  (seqM (M.bd (M.bd (fzM 0) itemsM) (forM (setM 3) (seqM (asgM (opM subF (consM (opM addF (consM (pkM 2) (consM (opM intF (consM (opM eqF (consM (pkM 3) (consM (dM (.str "(")) (M.ret [])))) (M.ret []))) (M.ret [])))) (consM (opM intF (consM (opM eqF (consM (pkM 3) (consM (dM (.str ")")) (M.ret [])))) (M.ret []))) (M.ret [])))) (setM 2))
  (ifM (orZ (tstM (opM ltF (consM (pkM 2) (consM (dM (.int 0)) (M.ret []))))) (orZ (tstM (opM gtF (consM (pkM 2) (consM (dM (.int 8)) (M.ret []))))) (tstM (opM eqF (consM (pkM 3) (consM (dM (.str "~")) (M.ret []))))))) (retM (dM (.bool false))) (M.ret .next)))))
  (seqM (whM (tstM (opM (inF false) (consM (dM (.str "(")) (consM (pkM 0) (M.ret []))))) (seqM (asgM (opM lenF (consM (rp0M (rdM 0) (dM (.str "("))) (M.ret []))) (setM 4))
  (seqM (asgM (fd3M (rdM 0) (dM (.str ")")) (rdM 4)) (setM 5))
  (seqM (ifM (tstM (opM ltF (consM (pkM 5) (consM (dM (.int 0)) (M.ret []))))) (retM (dM (.bool false))) (M.ret .next))
  (seqM (asgM (callM f_law_bracket [] (valA (slLhM (pkM 0) (opM addF (consM (pkM 4) (consM (dM (.int 1)) (M.ret [])))) (rdM 5)) (M.ret []))) (setM 6))
  (seqM (ifM (tstM (opM eqF (consM (pkM 6) (consM (dM (.str "")) (M.ret []))))) (retM (dM (.bool false))) (M.ret .next))
  (asgM (opM addF (consM (opM addF (consM (opM (slF false true) (consM (pkM 0) (consM (pkM 4) (M.ret [])))) (consM (pkM 6) (M.ret [])))) (consM (opM (slF true false) (consM (pkM 0) (consM (opM addF (consM (pkM 5) (consM (dM (.int 1)) (M.ret [])))) (M.ret [])))) (M.ret [])))) (setM 0))))))) 1000000)
  (retM (callM f_law_is_part [] (slIn 0 (slIn 1 (M.ret []))))))))
def f_law_told : Fn := runF 0 2 7 g_law_told
def g_law_signs : M Fl := (seqM (asgM (dM (.str " !\"#$&'()*+,-./0123456789:;<=>?\x40ABCDEFGHIJKLMNOPQRSTUVWXYZ")) (setM 1))
  (seqM (asgM (opM addF (consM (pkM 1) (consM (dM (.str "[\\]^_`abcdefghijklmnopqrstuvwxyz{|}~\n")) (M.ret [])))) (setM 1))
  (seqM (asgM (lstM (consM (dM (.str "()")) (consM (dM (.str " ")) (consM (dM (.str "( ")) (consM (opM ixF (consM (fzM 1) (consM (callM G.f_law_take [] (slIn 0 (valA (dM (.int 95)) (M.ret [])))) (M.ret [])))) (consM (opM ixF (consM (fzM 1) (consM (callM G.f_law_take [] (slIn 0 (valA (dM (.int 95)) (M.ret [])))) (M.ret [])))) (consM (opM ixF (consM (dM (.str "()")) (consM (callM G.f_law_take [] (slIn 0 (valA (dM (.int 2)) (M.ret [])))) (M.ret [])))) (M.ret [])))))))) (setM 2))
  (retM (opM ixF (consM (fzM 2) (consM (callM G.f_law_take [] (slIn 0 (valA (dM (.int 6)) (M.ret [])))) (M.ret []))))))))
def f_law_signs : Fn := runF 1 1 3 g_law_signs
def g_law_spoilt : M Fl := (seqM (asgM (callM G.f_law_take [] (slIn 0 (valA (opM addF (consM (opM lenF (consM (pkM 1) (M.ret []))) (consM (dM (.int 1)) (M.ret [])))) (M.ret [])))) (setM 2))
  (seqM (asgM (callM G.f_law_take [] (slIn 0 (valA (dM (.int 6)) (M.ret [])))) (setM 3))
  (seqM (asgM (callM f_law_signs [] (slIn 0 (M.ret []))) (setM 4))
  (seqM (ifM (tstM (opM ltF (consM (pkM 3) (consM (dM (.int 3)) (M.ret []))))) (retM (opM ixF (consM (lstM (consM (opM addF (consM (opM addF (consM (opM (slF false true) (consM (pkM 1) (consM (pkM 2) (M.ret [])))) (consM (pkM 4) (M.ret [])))) (consM (opM (slF true false) (consM (pkM 1) (consM (pkM 2) (M.ret [])))) (M.ret [])))) (consM (opM addF (consM (opM addF (consM (opM (slF false true) (consM (pkM 1) (consM (pkM 2) (M.ret [])))) (consM (pkM 4) (M.ret [])))) (consM (opM (slF true false) (consM (pkM 1) (consM (opM addF (consM (pkM 2) (consM (dM (.int 1)) (M.ret [])))) (M.ret [])))) (M.ret [])))) (consM (opM addF (consM (opM (slF false true) (consM (pkM 1) (consM (pkM 2) (M.ret [])))) (consM (opM (slF true false) (consM (pkM 1) (consM (opM addF (consM (pkM 2) (consM (dM (.int 1)) (M.ret [])))) (M.ret [])))) (M.ret [])))) (M.ret []))))) (consM (pkM 3) (M.ret []))))) (M.ret .next))
  (seqM (asgM (splM (rdM 1) (dM (.str " "))) (setM 5))
  (seqM (asgM (callM G.f_law_take [] (slIn 0 (valA (opM lenF (consM (pkM 5) (M.ret []))) (M.ret [])))) (setM 2))
  (seqM (asgM (opM ixF (consM (opM addF (consM (callM G.f_law_taken [] (M.ret [])) (consM (lstM (consM (dM (.str "")) (consM (dM (.str "q")) (consM (dM (.str "abcdef")) (consM (dM (.str "(q)")) (consM (dM (.str "(")) (consM (dM (.str ")")) (consM (opM ixF (consM (fzM 5) (consM (callM G.f_law_take [] (slIn 0 (valA (opM lenF (consM (pkM 5) (M.ret []))) (M.ret [])))) (M.ret [])))) (M.ret []))))))))) (M.ret [])))) (consM (callM G.f_law_take [] (slIn 0 (valA (dM (.int 26)) (M.ret [])))) (M.ret [])))) (setM 6))
  (seqM (ifM (tstM (opM eqF (consM (pkM 3) (consM (dM (.int 3)) (M.ret []))))) (retM (joinM (dM (.str " ")) (opM addF (consM (opM addF (consM (opM (slF false true) (consM (pkM 5) (consM (pkM 2) (M.ret [])))) (consM (lstM (consM (rdM 6) (M.ret []))) (M.ret [])))) (consM (opM (slF true false) (consM (pkM 5) (consM (opM addF (consM (pkM 2) (consM (dM (.int 1)) (M.ret [])))) (M.ret [])))) (M.ret [])))))) (M.ret .next))
  (seqM (ifM (tstM (opM eqF (consM (pkM 3) (consM (dM (.int 4)) (M.ret []))))) (retM (joinM (dM (.str " ")) (opM addF (consM (opM addF (consM (opM (slF false true) (consM (pkM 5) (consM (pkM 2) (M.ret [])))) (consM (lstM (consM (rdM 6) (M.ret []))) (M.ret [])))) (consM (opM (slF true false) (consM (pkM 5) (consM (pkM 2) (M.ret [])))) (M.ret [])))))) (M.ret .next))
  (retM (joinM (dM (.str " ")) (opM addF (consM (opM (slF false true) (consM (pkM 5) (consM (pkM 2) (M.ret [])))) (consM (opM (slF true false) (consM (pkM 5) (consM (opM addF (consM (pkM 2) (consM (dM (.int 1)) (M.ret [])))) (M.ret [])))) (M.ret [])))))))))))))))
def f_law_spoilt : Fn := runF 2 2 7 g_law_spoilt
end
end G
namespace Lawk14
open PySem PySem.Spec L2 Z
noncomputable section
def f_law_any_errand : Nat → Fn
  | 0 => fun _ => .bad
  | n + 1 => runF 4 4 8 (seqM (asgM (callM G.f_law_take [] (slIn 0 (valA (dM (.int 8)) (M.ret [])))) (setM 4))
  (seqM (ifM (orZ (tstM (opM eqF (consM (pkM 3) (consM (dM (.int 0)) (M.ret []))))) (orZ (tstM (opM ltF (consM (opM ixF (consM (pkM 2) (consM (dM (.int 0)) (M.ret [])))) (consM (dM (.int 2)) (M.ret []))))) (tstM (opM eqF (consM (pkM 4) (consM (dM (.int 0)) (M.ret []))))))) (retM (callM G.f_law_leaf [] (slIn 0 (valA (opM ixF (consM (pkM 1) (consM (dM (.int 1)) (M.ret [])))) (slIn 2 (M.ret [])))))) (M.ret .next))
  (seqM (ifM (tstM (opM eqF (consM (pkM 4) (consM (dM (.int 1)) (M.ret []))))) (seqM (asgM (opM subF (consM (opM ixF (consM (pkM 2) (consM (dM (.int 0)) (M.ret [])))) (consM (dM (.int 1)) (M.ret [])))) (ixSetM 2 (dM (.int 0))))
  (retM (tupM (consM (dM (.str "often")) (consM (callM (f_law_any_errand n) [] (slIn 0 (slIn 1 (slIn 2 (valA (opM subF (consM (pkM 3) (consM (dM (.int 1)) (M.ret [])))) (M.ret [])))))) (M.ret [])))))) (M.ret .next))
  (seqM (asgM (callM (G.f_law_any_test 9) [] (slIn 0 (valA (opM ixF (consM (pkM 1) (consM (dM (.int 0)) (M.ret [])))) (valA (opM addF (consM (dM (.int 1)) (consM (callM G.f_law_take [] (slIn 0 (valA (dM (.int 7)) (M.ret [])))) (M.ret [])))) (valA (opM subF (consM (pkM 3) (consM (dM (.int 1)) (M.ret [])))) (M.ret [])))))) (setM 5))
  (seqM (ifM (tstM (opM eqF (consM (pkM 4) (consM (dM (.int 2)) (M.ret []))))) (seqM (asgM (opM subF (consM (opM ixF (consM (pkM 2) (consM (dM (.int 0)) (M.ret [])))) (consM (dM (.int 1)) (M.ret [])))) (ixSetM 2 (dM (.int 0))))
  (retM (tupM (consM (dM (.str "while")) (consM (fzM 5) (consM (callM (f_law_any_errand n) [] (slIn 0 (slIn 1 (slIn 2 (valA (opM subF (consM (pkM 3) (consM (dM (.int 1)) (M.ret [])))) (M.ret [])))))) (M.ret []))))))) (M.ret .next))
  (seqM (asgM (opM subF (consM (opM ixF (consM (pkM 2) (consM (dM (.int 0)) (M.ret [])))) (consM (dM (.int 2)) (M.ret [])))) (ixSetM 2 (dM (.int 0))))
  (seqM (asgM (callM (f_law_any_errand n) [] (slIn 0 (slIn 1 (slIn 2 (valA (opM subF (consM (pkM 3) (consM (dM (.int 1)) (M.ret [])))) (M.ret [])))))) (setM 6))
  (seqM (asgM (callM (f_law_any_errand n) [] (slIn 0 (slIn 1 (slIn 2 (valA (opM subF (consM (pkM 3) (consM (dM (.int 1)) (M.ret [])))) (M.ret [])))))) (setM 7))
  (retM (opM ixF (consM (lstM (consM (tupM (consM (dM (.str "then")) (consM (fzM 6) (consM (fzM 7) (M.ret []))))) (consM (tupM (consM (dM (.str "if")) (consM (fzM 5) (consM (fzM 6) (consM (fzM 7) (M.ret [])))))) (consM (tupM (consM (dM (.str "either")) (consM (fzM 6) (consM (fzM 7) (M.ret []))))) (M.ret []))))) (consM (opM modF (consM (pkM 4) (consM (dM (.int 3)) (M.ret [])))) (M.ret [])))))))))))))
def g_law_right : M Fl := (seqM (asgM (dM .none) (setM 2))
  (seqM (asgM (dM .none) (setM 3))
  (seqM (tryM ["BadText"] 4 (ifM (tstM (opM eqF (consM (pkM 1) (consM (dM (.str "t")) (M.ret []))))) (asgM (callM (G.f_law_test_said 12) [] (valA (callM G.f_read_test [] (slIn 0 (M.ret []))) (M.ret []))) (setM 3)) (asgM (callM (G.f_law_errand_said 12) [] (valA (callM G.f_read_errand [] (slIn 0 (M.ret []))) (M.ret []))) (setM 3))) (asgM (cpM (pkM 4)) (setM 2)))
  (seqM (ifM (tstM (callM G.f_law_told [] (slIn 0 (slIn 1 (M.ret []))))) (retM (andV (opM (isNF false) (consM (pkM 2) (consM (dM .none) (M.ret [])))) (opM eqF (consM (pkM 3) (consM (pkM 0) (M.ret [])))))) (M.ret .next))
  (seqM (ifM (orZ (notZ (tstM (isxM [("BadText", true)] (pkM 2)))) (tstM (isxM [("BadText", false)] (pkM 2)))) (retM (dM (.bool false))) (M.ret .next))
  (retM (andV (opM eqF (consM (xfM ["BadText"] "at" (pkM 2)) (consM (dM (.int 0)) (M.ret [])))) (andV (notV (isiM "bool" (xfM ["BadText"] "at" (pkM 2)))) (isxM [("BadText", true)] (pkM 2))))))))))
def f_law_right : Fn := runF 2 2 5 g_law_right
def g_law : M Fl := (seqM (M.bd (M.bd (consM (opM max2F (consM (dM (.int 1)) (consM (opM min2F (consM (dM (.int 3)) (consM (opM lenF (consM (pkM 0) (M.ret []))) (M.ret [])))) (M.ret [])))) (M.ret [])) rng1M) (forM (setM 1) (seqM (asgM (callM G.f_law_box [] (slIn 0 (slIn 1 (M.ret [])))) (setM 2))
  (seqM (asgM (frzM (tupM (consM (compM [10] (M.bd (consM (dM (.int 3)) (M.ret [])) rng1M) (setM 10) yesM (callM G.f_law_name [] (slIn 2 (M.ret [])))) (consM (compM [10] (M.bd (consM (dM (.int 3)) (M.ret [])) rng1M) (setM 10) yesM (callM G.f_law_name [] (slIn 2 (M.ret [])))) (M.ret []))))) (setM 3))
  (seqM (asgM (callM (G.f_law_errand_said 12) [] (valA (callM (f_law_any_errand 10) [] (slIn 2 (slIn 3 (valA (lstM (consM (callM G.f_law_take [] (slIn 2 (valA (dM (.int 12)) (M.ret [])))) (consM (callM G.f_law_take [] (slIn 2 (valA (dM (.int 7)) (M.ret [])))) (M.ret [])))) (valA (dM (.int 8)) (M.ret [])))))) (M.ret []))) (setM 4))
  (seqM (ifM (tstM (opM eqF (consM (callM G.f_law_take [] (slIn 2 (valA (dM (.int 3)) (M.ret [])))) (consM (dM (.int 0)) (M.ret []))))) (asgM (callM (G.f_law_test_said 12) [] (valA (callM (G.f_law_any_test 9) [] (slIn 2 (valA (opM ixF (consM (pkM 3) (consM (dM (.int 0)) (M.ret [])))) (valA (dM (.int 7)) (valA (dM (.int 6)) (M.ret [])))))) (M.ret []))) (setM 4)) (M.ret .next))
  (seqM (asgM (fzM 4) (setM 5))
  (seqM (M.bd (M.bd (consM (opM addF (consM (dM (.int 1)) (consM (callM G.f_law_take [] (slIn 2 (valA (dM (.int 3)) (M.ret [])))) (M.ret [])))) (M.ret [])) rng1M) (forM (setM 6) (asgM (callM G.f_law_spoilt [] (slIn 2 (slIn 5 (M.ret [])))) (setM 5))))
  (seqM (asgM (opM addF (consM (dM (.int 7)) (consM (callM G.f_law_take [] (slIn 2 (valA (dM (.int 4)) (M.ret [])))) (M.ret [])))) (setM 7))
  (seqM (asgM (lstM (consM (fzM 4) (consM (fzM 5) (consM (opM addF (consM (opM addF (consM (opM tmsF (consM (dM (.str "(often ")) (consM (pkM 7) (M.ret [])))) (consM (dM (.str "q")) (M.ret [])))) (consM (opM tmsF (consM (dM (.str ")")) (consM (pkM 7) (M.ret [])))) (M.ret [])))) (consM (opM addF (consM (opM addF (consM (opM tmsF (consM (dM (.str "(not ")) (consM (pkM 7) (M.ret [])))) (consM (dM (.str "yes")) (M.ret [])))) (consM (opM tmsF (consM (dM (.str ")")) (consM (pkM 7) (M.ret [])))) (M.ret [])))) (M.ret [])))))) (setM 8))
  (seqM (dropM (appLM 8 (opM addF (consM (opM addF (consM (opM tmsF (consM (dM (.str "(often ")) (consM (opM subF (consM (pkM 7) (consM (dM (.int 2)) (M.ret [])))) (M.ret [])))) (consM (dM (.str "(while (not q) done)")) (M.ret [])))) (consM (opM tmsF (consM (dM (.str ")")) (consM (opM subF (consM (pkM 7) (consM (dM (.int 2)) (M.ret [])))) (M.ret [])))) (M.ret []))))))
  (M.bd (M.bd (opM addF (consM (pkM 8) (consM (lstM (consM (opM addF (consM (pkM 4) (consM (dM (.str "\n")) (M.ret [])))) (consM (rdM 4) (M.ret [])))) (M.ret [])))) itemsM) (forM (setM 9) (ifM (orZ (notZ (tstM (callM f_law_right [] (slIn 9 (valA (dM (.str "e")) (M.ret [])))))) (notZ (tstM (callM f_law_right [] (slIn 9 (valA (dM (.str "t")) (M.ret []))))))) (retM (dM (.bool false))) (M.ret .next)))))))))))))))
  (retM (dM (.bool true))))
def f_law : Fn := runF 1 1 11 g_law
end
end Lawk14
namespace Lawk14
open PySem PySem.Spec L2 Z
def topS (i : Nat) : Stmt := PySem.Challenge.pw_unsaidways_k14_texts_of_no_errand_or_tes.main.body.getD i (.Pass ⟨0, 0, 0, 0⟩)
/-- what the module's names hold -/
structure Nm (K : PySem.W.Frag) (w : World) (mg : Str → Option Value) : Prop where
  m_all : mg "all" = none
  m_bool : mg "bool" = none
  m_int : mg "int" = none
  m_isinstance : mg "isinstance" = none
  m_len : mg "len" = none
  m_list : mg "list" = none
  m_max : mg "max" = none
  m_min : mg "min" = none
  m_range : mg "range" = none
  m_tuple : mg "tuple" = none
  m_zip : mg "zip" = none
  h_DEEPEST : ∀ (X : Cx) (W : WX) (pos : Pos), X.K = K → X.mg = mg → Gl X "DEEPEST" → Ev X W true (.Name "DEEPEST" pos) (dM (.int 8))
  h_ERRANDS : GD K w mg "ERRANDS" [("then", 2), ("if", 2), ("while", 1), ("either", 2), ("often", 1)]
  h_LETTERS : ∀ (X : Cx) (W : WX) (pos : Pos), X.K = K → X.mg = mg → Gl X "LETTERS" → Ev X W true (.Name "LETTERS" pos) (dM (.str "abcdefghijklmnopqrstuvwxyz"))
  h_LONGEST : ∀ (X : Cx) (W : WX) (pos : Pos), X.K = K → X.mg = mg → Gl X "LONGEST" → Ev X W true (.Name "LONGEST" pos) (dM (.int 5))
  h_TAKEN : ∀ (X : Cx) (W : WX) (pos : Pos), X.K = K → X.mg = mg → Gl X "TAKEN" → Ev X W true (.Name "TAKEN" pos) (M.ret (.gT [(.str "yes"), (.str "no"), (.str "not"), (.str "and"), (.str "or"), (.str "done"), (.str "then"), (.str "if"), (.str "while"), (.str "either"), (.str "often"), (.str "asks"), (.str "deeds"), (.str "keeps"), (.str "makes"), (.str "rests"), (.str "idles"), (.str "still"), (.str "never")]))
  h_TESTS : GD K w mg "TESTS" [("not", 1), ("and", 2), ("or", 2)]
  f_Reading_deep : CF K mg "Reading" "deep"
  f_Reading_place : CF K mg "Reading" "place"
  f_Reading_row_number : CF K mg "Reading" "row_number"
  f_Reading_text : CF K mg "Reading" "text"
  is_ValueError : Isx K mg ["ValueError"] [("BadText", true)]
  xf_at : Xfs K mg "at" ["BadText"]
  is_NoBook_NoErrand_NoRow_NoWay_NoWorld_TooMany : Isx K mg ["NoBook", "NoErrand", "NoRow", "NoWay", "NoWorld", "TooMany"] [("BadText", false)]
  is_BadText : Isx K mg ["BadText"] [("BadText", true)]
  hd_WayError : Hnd K mg "WayError" ["BadText"]
  xb_WayError : XBase K mg "WayError"
theorem sc_BadText_init : FnScope ["self", "at"] ["self", "at"] (defScope (inClass (topS 2) 0)) := ⟨rfl, rfl, rfl, by decide +kernel, rfl, by decide +kernel, by decide +kernel⟩
theorem ok_BadText_init {P : Program} {w : World} {K : PySem.W.Frag} {mg : Str → Option Value} {base : Heap} (B : Nm K w mg) {a : Addr} {fd : FuncData} (F : Fun K "__init__" "BadText.__init__" (inClass (topS 2) 0) a fd) : FnOk P w K mg base (L2.CX P w) 1 a fd ["self", "at"] (spI K "at") := by
  obtain ⟨CB, mc, hm, rd, vV⟩ := B.xb_WayError.ex
  exact initRule F sc_BadText_init rfl fun cdv A outer s H E e C v T hno => ⟨_, pss_cons (ps_expr (pe_beinit (by rfl) hm rd vV (pa_cons (pv 0 rfl (by first | exact Or.inl rfl | exact Or.inr (Or.inl rfl) | exact Or.inr (Or.inr rfl)) (by decide) (by decide)) (pa_cons (pv 1 rfl (by first | exact Or.inl rfl | exact Or.inr (Or.inl rfl) | exact Or.inr (Or.inr rfl)) (by decide) (by decide)) pa_nil)))) (pss_one (ps_ost (pv 0 rfl (by first | exact Or.inl rfl | exact Or.inr (Or.inl rfl) | exact Or.inr (Or.inr rfl)) (by decide) (by decide)) (pv 1 rfl (by first | exact Or.inl rfl | exact Or.inr (Or.inl rfl) | exact Or.inr (Or.inr rfl)) (by decide) (by decide)))),
    fun D σ h0 h1 ha q => ⟨.ref e, h0, v, h1, e, C, [v], rfl, by simp, T, ha, v, h1, .ref e, h0, e, C, rfl, T, hno, .inl ⟨ha, q⟩⟩⟩
theorem sc_is_name : FnScope ["text", "sign"] ["text"] (defScope (topS 13)) := ⟨rfl, rfl, rfl, by decide +kernel, rfl, by decide +kernel, by decide +kernel⟩
theorem ok_is_name {P : Program} {w : World} {K : PySem.W.Frag} {mg : Str → Option Value} {base : Heap} (B : Nm K w mg) {a : Addr} {fd : FuncData} (F : Fun K "is_name" "is_name" (topS 13) a fd) :
    FnG P w K mg base (L2.CX P w) 1 a fd ["text"] (spF K mg 1 G.f_is_name) :=
  fnRule 1 F sc_is_name (by decide) fun cdv A outer s H E c =>
    (ess_one (es_ret (ev_and (ev_chain op_lt op_le pr_lt pr_le ev_int (ev_bi call_len pr_len B.m_len boot_len_ (eas_p (ep_pk 0) eas_nil)) (B.h_LONGEST _ _ _ (by rfl) (by rfl) (by rfl)) rfl) (ev_and (ev_cmp op_notIn2 pr_in (eas_p (ep_pk 0) (eas_p (B.h_TAKEN _ _ _ (by rfl) (by rfl) (by rfl)).p eas_nil)) rfl) (ev_one (ev_bi (cr_all c.calm) pr_all B.m_all boot_all_ (eas_p (ev_comp c (own := [("sign", 1)]) (ei_seq (ev_fz 0)) (blkOk_by (by kernel_rfl)) (fun bi => (eb_name 1 (by decide) (c.blk _ bi).nd rfl (by first | exact Or.inl rfl | exact Or.inr rfl))) (fun bi => ec_yes) (fun bi => (ev_cmp op_in2 pr_in (eas_p (ep_pk 1) (eas_p (B.h_LETTERS _ _ _ (by rfl) (by rfl) (by rfl)).p eas_nil)) rfl))).1.p eas_nil)))))))
theorem sc_Reading_init : FnScope ["self", "text", "at"] ["self", "text", "at"] (defScope (inClass (topS 18) 0)) := ⟨rfl, rfl, rfl, by decide +kernel, rfl, by decide +kernel, by decide +kernel⟩
theorem ok_Reading_init {P : Program} {w : World} {K : PySem.W.Frag} {mg : Str → Option Value} {base : Heap} (B : Nm K w mg) {a : Addr} {fd : FuncData} (F : Fun K "__init__" "Reading.__init__" (inClass (topS 18) 0) a fd) :
    FnG P w K mg base (L2.CX P w) 1 a fd ["self", "text", "at"] (spF K mg 3 G.f_Reading_init) :=
  fnRule 3 F sc_Reading_init (by decide) fun cdv A outer s H E c =>
    (ess_cons (es_fs 0 (ev_fz 1) B.f_Reading_text)
    (ess_cons (es_fs 0 (ev_fz 2) B.f_Reading_row_number)
    (ess_cons (es_fs 0 ev_int B.f_Reading_place)
    (ess_one (es_fs 0 ev_int B.f_Reading_deep)))))
theorem sc_Reading_need : FnScope ["self", "truth"] ["self", "truth"] (defScope (inClass (topS 18) 1)) := ⟨rfl, rfl, rfl, by decide +kernel, rfl, by decide +kernel, by decide +kernel⟩
theorem ok_Reading_need {P : Program} {w : World} {K : PySem.W.Frag} {mg : Str → Option Value} {base : Heap} (B : Nm K w mg) (C_BadText_init : XMak P w K mg base "BadText" "at") {a : Addr} {fd : FuncData} (F : Fun K "need" "Reading.need" (inClass (topS 18) 1) a fd) :
    FnG P w K mg base (L2.CX P w) 3 a fd ["self", "truth"] (spF K mg 2 G.f_Reading_need) :=
  fnRule 2 F sc_Reading_need (by decide) fun cdv A outer s H E c =>
    (ess_one (es_if (et_not (et_val (ev_fz 1))) (ess_one (es_raise1 c C_BadText_init (by omega) (ev_cp (ep_at (ep_pk 0) B.f_Reading_row_number)))) ess_nil))
theorem sc_Reading_take : FnScope ["self", "sign"] ["self", "sign"] (defScope (inClass (topS 18) 2)) := ⟨rfl, rfl, rfl, by decide +kernel, rfl, by decide +kernel, by decide +kernel⟩
theorem ok_Reading_take {P : Program} {w : World} {K : PySem.W.Frag} {mg : Str → Option Value} {base : Heap} (B : Nm K w mg) (C_Reading_need : Methd P w K mg base "Reading" "need" 3 2 [] G.f_Reading_need) {a : Addr} {fd : FuncData} (F : Fun K "take" "Reading.take" (inClass (topS 18) 2) a fd) :
    FnG P w K mg base (L2.CX P w) 4 a fd ["self", "sign"] (spF K mg 2 G.f_Reading_take) :=
  fnRule 2 F sc_Reading_take (by decide) fun cdv A outer s H E c =>
    (ess_cons (es_expr (ev_methS 0 c C_Reading_need (by omega) (eu_val (ev_cmp (op_eq2 c.hr.units) pr_eq (eas_p (ev_slLh (ep_un (ep_at (ep_pk 0) B.f_Reading_text)) (ev_cp (ep_at (ep_pk 0) B.f_Reading_place)) (ev_op op_add4 pr_add (eas_p (ep_un (ep_at (ep_pk 0) B.f_Reading_place)) (eas_p ev_int.p eas_nil)))).p (eas_p (ep_pk 1) eas_nil)) (nomark _)) eu_nil)))
    (ess_one (es_fsA 0 ev_int B.f_Reading_place)))
theorem sc_Reading_take_word : FnScope ["self", "begin"] ["self"] (defScope (inClass (topS 18) 3)) := ⟨rfl, rfl, rfl, by decide +kernel, rfl, by decide +kernel, by decide +kernel⟩
theorem ok_Reading_take_word {P : Program} {w : World} {K : PySem.W.Frag} {mg : Str → Option Value} {base : Heap} (B : Nm K w mg) {a : Addr} {fd : FuncData} (F : Fun K "take_word" "Reading.take_word" (inClass (topS 18) 3) a fd) :
    FnG P w K mg base (L2.CX P w) 1 a fd ["self"] (spF K mg 1 G.f_Reading_take_word) :=
  fnRule 1 F sc_Reading_take_word (by decide) fun cdv A outer s H E c =>
    (ess_cons (es_set 1 (by decide) c.nd rfl (by first | exact Or.inl rfl | exact Or.inr rfl) (ev_cp (ep_at (ep_pk 0) B.f_Reading_place)))
    (ess_cons (es_while 1000000 c (ew_and (et_cmp op_lt pr_lt (eas_p (ep_un (ep_at (ep_pk 0) B.f_Reading_place)) (eas_p (ev_bi call_len pr_len B.m_len boot_len_ (eas_p (ep_un (ep_at (ep_pk 0) B.f_Reading_text)) eas_nil)).p eas_nil)) (nomark _)) (ew_and1 (et_cmp op_notIn2 pr_in (eas_p (ev_ix ix_seq pr_ix (eas_p (ep_un (ep_at (ep_pk 0) B.f_Reading_text)) (eas_p (ep_un (ep_at (ep_pk 0) B.f_Reading_place)) eas_nil))).p (eas_p ev_str.p eas_nil)) rfl))).t (ess_one (es_fsA 0 ev_int B.f_Reading_place)))
    (ess_one (es_ret (ev_slLh (ep_un (ep_at (ep_pk 0) B.f_Reading_text)) (ev_rd 1) (ev_cp (ep_at (ep_pk 0) B.f_Reading_place)))))))
theorem sc_Reading_take_head : FnScope ["self", "known", "word"] ["self", "known"] (defScope (inClass (topS 18) 4)) := ⟨rfl, rfl, rfl, by decide +kernel, rfl, by decide +kernel, by decide +kernel⟩
theorem ok_Reading_take_head {P : Program} {w : World} {K : PySem.W.Frag} {mg : Str → Option Value} {base : Heap} (B : Nm K w mg) (C_Reading_need : Methd P w K mg base "Reading" "need" 3 2 [] G.f_Reading_need) (C_Reading_take_word : Methd P w K mg base "Reading" "take_word" 1 1 [] G.f_Reading_take_word) (C_Reading_take : Methd P w K mg base "Reading" "take" 4 2 [] G.f_Reading_take) {a : Addr} {fd : FuncData} (F : Fun K "take_head" "Reading.take_head" (inClass (topS 18) 4) a fd) :
    FnG P w K mg base (L2.CX P w) 5 a fd ["self", "known"] (spF K mg 2 G.f_Reading_take_head) :=
  fnRule 2 F sc_Reading_take_head (by decide) fun cdv A outer s H E c =>
    (ess_cons (es_expr (ev_methS 0 c C_Reading_take (by omega) (eu_val ev_str eu_nil)))
    (ess_cons (es_fsA 0 ev_int B.f_Reading_deep)
    (ess_cons (es_expr (ev_methS 0 c C_Reading_need (by omega) (eu_val (ev_cmp op_le pr_le (eas_p (ep_un (ep_at (ep_pk 0) B.f_Reading_deep)) (eas_p (B.h_DEEPEST _ _ _ (by rfl) (by rfl) (by rfl)).p eas_nil)) (nomark _)) eu_nil)))
    (ess_cons (es_set 2 (by decide) c.nd rfl (by first | exact Or.inl rfl | exact Or.inr rfl) (ev_methS0 0 c C_Reading_take_word (by omega)))
    (ess_cons (es_expr (ev_methS 0 c C_Reading_need (by omega) (eu_val (ev_cmp op_in2 pr_in (eas_p (ep_pk 2) (eas_p (ep_pk 1) eas_nil)) rfl) eu_nil)))
    (ess_one (es_ret (ev_mv 2))))))))
theorem sc_Reading_shut : FnScope ["self"] ["self"] (defScope (inClass (topS 18) 5)) := ⟨rfl, rfl, rfl, by decide +kernel, rfl, by decide +kernel, by decide +kernel⟩
theorem ok_Reading_shut {P : Program} {w : World} {K : PySem.W.Frag} {mg : Str → Option Value} {base : Heap} (B : Nm K w mg) (C_Reading_take : Methd P w K mg base "Reading" "take" 4 2 [] G.f_Reading_take) {a : Addr} {fd : FuncData} (F : Fun K "shut" "Reading.shut" (inClass (topS 18) 5) a fd) :
    FnG P w K mg base (L2.CX P w) 5 a fd ["self"] (spF K mg 1 G.f_Reading_shut) :=
  fnRule 1 F sc_Reading_shut (by decide) fun cdv A outer s H E c =>
    (ess_cons (es_expr (ev_methS 0 c C_Reading_take (by omega) (eu_val ev_str eu_nil)))
    (ess_one (es_fsS 0 ev_int B.f_Reading_deep)))
theorem sc_Reading_is_open : FnScope ["self"] ["self"] (defScope (inClass (topS 18) 6)) := ⟨rfl, rfl, rfl, by decide +kernel, rfl, by decide +kernel, by decide +kernel⟩
theorem ok_Reading_is_open {P : Program} {w : World} {K : PySem.W.Frag} {mg : Str → Option Value} {base : Heap} (B : Nm K w mg) {a : Addr} {fd : FuncData} (F : Fun K "is_open" "Reading.is_open" (inClass (topS 18) 6) a fd) :
    FnG P w K mg base (L2.CX P w) 1 a fd ["self"] (spF K mg 1 G.f_Reading_is_open) :=
  fnRule 1 F sc_Reading_is_open (by decide) fun cdv A outer s H E c =>
    (ess_one (es_ret (ev_cmp (op_eq2 c.hr.units) pr_eq (eas_p (ev_slLh (ep_un (ep_at (ep_pk 0) B.f_Reading_text)) (ev_cp (ep_at (ep_pk 0) B.f_Reading_place)) (ev_op op_add4 pr_add (eas_p (ep_un (ep_at (ep_pk 0) B.f_Reading_place)) (eas_p ev_int.p eas_nil)))).p (eas_p ev_str.p eas_nil)) (nomark _))))
theorem sc_Reading_take_test : FnScope ["self", "word", "found", "turn"] ["self"] (defScope (inClass (topS 18) 7)) := ⟨rfl, rfl, rfl, by decide +kernel, rfl, by decide +kernel, by decide +kernel⟩
theorem ok_Reading_take_test {P : Program} {w : World} {K : PySem.W.Frag} {mg : Str → Option Value} {base : Heap} (B : Nm K w mg) (C_Reading_shut : Methd P w K mg base "Reading" "shut" 5 1 [] G.f_Reading_shut) (C_Reading_take : Methd P w K mg base "Reading" "take" 4 2 [] G.f_Reading_take) (C_Reading_take_head : Methd P w K mg base "Reading" "take_head" 5 2 [] G.f_Reading_take_head) (C_Reading_is_open : Methd P w K mg base "Reading" "is_open" 1 1 [] G.f_Reading_is_open) (C_Reading_need : Methd P w K mg base "Reading" "need" 3 2 [] G.f_Reading_need) (C_is_name : Callee P w K mg base "is_name" 1 1 [] G.f_is_name) (C_Reading_take_word : Methd P w K mg base "Reading" "take_word" 1 1 [] G.f_Reading_take_word) {a : Addr} {fd : FuncData} (F : Fun K "take_test" "Reading.take_test" (inClass (topS 18) 7) a fd) {cc : Addr} (mn : mg "Reading" = some (.ref cc)) (cl : Cls K cc) (mt : Meth K cc "take_test" a) (bd : L2.Binds K fd ["self"] []) : ∀ n : Nat,
    FnG P w K mg base (L2.CX P w) (5 + n) a fd ["self"] (spF K mg 1 (G.f_Reading_take_test n))
  | 0 => fnBad rfl
  | n + 1 => by
    have C_Reading_take_test : Methd P w K mg base "Reading" "take_test" (5 + n) 1 [] (G.f_Reading_take_test n) := ⟨cc, _, _, _, [], [], ok_Reading_take_test B C_Reading_shut C_Reading_take C_Reading_take_head C_Reading_is_open C_Reading_need C_is_name C_Reading_take_word F mn cl mt bd n, mn, cl, mt, bd, .nil, fun _ => .nil⟩
    exact fnRule (k := 5 + n) 1 F sc_Reading_take_test (by decide) fun cdv A outer s H E c =>
    (ess_cons (es_if (et_not (et_val (ev_methS0 0 c C_Reading_is_open (by omega)))) (ess_cons (es_set 1 (by decide) c.nd rfl (by first | exact Or.inl rfl | exact Or.inr rfl) (ev_methS0 0 c C_Reading_take_word (by omega)))
    (ess_cons (es_if (et_cmp op_in2 pr_in (eas_p (ep_pk 1) (eas_p (ev_tup (ees_cons ev_str (ees_cons ev_str ees_nil))).p eas_nil)) rfl) (ess_one (es_ret (ev_tup (ees_cons (ev_fz 1) ees_nil)))) ess_nil)
    (ess_cons (es_expr (ev_methS 0 c C_Reading_need (by omega) (eu_val (ev_call c C_is_name (by omega) (by rfl) (eu_sl 1 eu_nil)) eu_nil)))
    (ess_one (es_ret (ev_tup (ees_cons ev_str (ees_cons (ev_fz 1) ees_nil)))))))) ess_nil)
    (ess_cons (es_set 1 (by decide) c.nd rfl (by first | exact Or.inl rfl | exact Or.inr rfl) (ev_methS 0 c C_Reading_take_head (by omega) (eu_val (ev_gdl c B.h_TESTS (by rfl) B.m_list) eu_nil)))
    (ess_cons (es_set 2 (by decide) c.nd rfl (by first | exact Or.inl rfl | exact Or.inr rfl) (ev_lst (ees_cons (ev_fz 1) ees_nil)))
    (ess_cons (es_for c (ei_range1 (ees_cons (ev_gdx c B.h_TESTS (by rfl) (ev_fz 1)) ees_nil) (by rfl) B.m_range) (eg_name 3 (by decide) c.nd rfl (by first | exact Or.inl rfl | exact Or.inr rfl)) (ess_cons (es_expr (ev_methS 0 c C_Reading_take (by omega) (eu_val ev_str eu_nil)))
    (ess_one (es_expr (ev_app 2 (ev_methS0 0 c C_Reading_take_test (by omega)))))))
    (ess_cons (es_expr (ev_methS0 0 c C_Reading_shut (by omega)))
    (ess_one (es_ret (ev_ty call_tupE pr_tup B.m_tuple boot_tuple_ (eas_p (ep_pk 2) eas_nil)))))))))
theorem sc_Reading_take_errand : FnScope ["self", "word", "found", "turn"] ["self"] (defScope (inClass (topS 18) 8)) := ⟨rfl, rfl, rfl, by decide +kernel, rfl, by decide +kernel, by decide +kernel⟩
theorem ok_Reading_take_errand {P : Program} {w : World} {K : PySem.W.Frag} {mg : Str → Option Value} {base : Heap} (B : Nm K w mg) (C_Reading_shut : Methd P w K mg base "Reading" "shut" 5 1 [] G.f_Reading_shut) (C_Reading_take : Methd P w K mg base "Reading" "take" 4 2 [] G.f_Reading_take) (C_Reading_take_test : Methd P w K mg base "Reading" "take_test" 17 1 [] (G.f_Reading_take_test 12)) (C_Reading_take_head : Methd P w K mg base "Reading" "take_head" 5 2 [] G.f_Reading_take_head) (C_Reading_is_open : Methd P w K mg base "Reading" "is_open" 1 1 [] G.f_Reading_is_open) (C_Reading_need : Methd P w K mg base "Reading" "need" 3 2 [] G.f_Reading_need) (C_is_name : Callee P w K mg base "is_name" 1 1 [] G.f_is_name) (C_Reading_take_word : Methd P w K mg base "Reading" "take_word" 1 1 [] G.f_Reading_take_word) {a : Addr} {fd : FuncData} (F : Fun K "take_errand" "Reading.take_errand" (inClass (topS 18) 8) a fd) {cc : Addr} (mn : mg "Reading" = some (.ref cc)) (cl : Cls K cc) (mt : Meth K cc "take_errand" a) (bd : L2.Binds K fd ["self"] []) : ∀ n : Nat,
    FnG P w K mg base (L2.CX P w) (17 + n) a fd ["self"] (spF K mg 1 (G.f_Reading_take_errand n))
  | 0 => fnBad rfl
  | n + 1 => by
    have C_Reading_take_errand : Methd P w K mg base "Reading" "take_errand" (17 + n) 1 [] (G.f_Reading_take_errand n) := ⟨cc, _, _, _, [], [], ok_Reading_take_errand B C_Reading_shut C_Reading_take C_Reading_take_test C_Reading_take_head C_Reading_is_open C_Reading_need C_is_name C_Reading_take_word F mn cl mt bd n, mn, cl, mt, bd, .nil, fun _ => .nil⟩
    exact fnRule (k := 17 + n) 1 F sc_Reading_take_errand (by decide) fun cdv A outer s H E c =>
    (ess_cons (es_if (et_not (et_val (ev_methS0 0 c C_Reading_is_open (by omega)))) (ess_cons (es_set 1 (by decide) c.nd rfl (by first | exact Or.inl rfl | exact Or.inr rfl) (ev_methS0 0 c C_Reading_take_word (by omega)))
    (ess_cons (es_if (et_cmp (op_eq2 c.hr.units) pr_eq (eas_p (ep_pk 1) (eas_p ev_str.p eas_nil)) (nomark _)) (ess_one (es_ret (ev_tup (ees_cons ev_str ees_nil)))) ess_nil)
    (ess_cons (es_expr (ev_methS 0 c C_Reading_need (by omega) (eu_val (ev_call c C_is_name (by omega) (by rfl) (eu_sl 1 eu_nil)) eu_nil)))
    (ess_one (es_ret (ev_tup (ees_cons ev_str (ees_cons (ev_fz 1) ees_nil)))))))) ess_nil)
    (ess_cons (es_set 1 (by decide) c.nd rfl (by first | exact Or.inl rfl | exact Or.inr rfl) (ev_methS 0 c C_Reading_take_head (by omega) (eu_val (ev_gdl c B.h_ERRANDS (by rfl) B.m_list) eu_nil)))
    (ess_cons (es_set 2 (by decide) c.nd rfl (by first | exact Or.inl rfl | exact Or.inr rfl) (ev_lst (ees_cons (ev_fz 1) ees_nil)))
    (ess_cons (es_if (et_cmp op_in2 pr_in (eas_p (ep_pk 1) (eas_p (ev_tup (ees_cons ev_str (ees_cons ev_str ees_nil))).p eas_nil)) rfl) (ess_cons (es_expr (ev_methS 0 c C_Reading_take (by omega) (eu_val ev_str eu_nil)))
    (ess_one (es_expr (ev_app 2 (ev_methS0 0 c C_Reading_take_test (by omega)))))) ess_nil)
    (ess_cons (es_for c (ei_range1 (ees_cons (ev_gdx c B.h_ERRANDS (by rfl) (ev_fz 1)) ees_nil) (by rfl) B.m_range) (eg_name 3 (by decide) c.nd rfl (by first | exact Or.inl rfl | exact Or.inr rfl)) (ess_cons (es_expr (ev_methS 0 c C_Reading_take (by omega) (eu_val ev_str eu_nil)))
    (ess_one (es_expr (ev_app 2 (ev_methS0 0 c C_Reading_take_errand (by omega)))))))
    (ess_cons (es_expr (ev_methS0 0 c C_Reading_shut (by omega)))
    (ess_one (es_ret (ev_ty call_tupE pr_tup B.m_tuple boot_tuple_ (eas_p (ep_pk 2) eas_nil))))))))))
theorem sc_Reading_end : FnScope ["self"] ["self"] (defScope (inClass (topS 18) 9)) := ⟨rfl, rfl, rfl, by decide +kernel, rfl, by decide +kernel, by decide +kernel⟩
theorem ok_Reading_end {P : Program} {w : World} {K : PySem.W.Frag} {mg : Str → Option Value} {base : Heap} (B : Nm K w mg) (C_Reading_need : Methd P w K mg base "Reading" "need" 3 2 [] G.f_Reading_need) {a : Addr} {fd : FuncData} (F : Fun K "end" "Reading.end" (inClass (topS 18) 9) a fd) :
    FnG P w K mg base (L2.CX P w) 4 a fd ["self"] (spF K mg 1 G.f_Reading_end) :=
  fnRule 1 F sc_Reading_end (by decide) fun cdv A outer s H E c =>
    (ess_one (es_expr (ev_methS 0 c C_Reading_need (by omega) (eu_val (ev_cmp (op_eq2 c.hr.units) pr_eq (eas_p (ep_un (ep_at (ep_pk 0) B.f_Reading_place)) (eas_p (ev_bi call_len pr_len B.m_len boot_len_ (eas_p (ep_un (ep_at (ep_pk 0) B.f_Reading_text)) eas_nil)).p eas_nil)) (nomark _)) eu_nil))))
theorem sc_read_errand : FnScope ["text", "reading", "found"] ["text"] (defScope (topS 19)) := ⟨rfl, rfl, rfl, by decide +kernel, rfl, by decide +kernel, by decide +kernel⟩
theorem ok_read_errand {P : Program} {w : World} {K : PySem.W.Frag} {mg : Str → Option Value} {base : Heap} (B : Nm K w mg) (C_Reading_end : Methd P w K mg base "Reading" "end" 4 1 [] G.f_Reading_end) (C_Reading_take_errand : Methd P w K mg base "Reading" "take_errand" 29 1 [] (G.f_Reading_take_errand 12)) (C_Reading_init : Maker P w K mg base "Reading" 1 3 [] G.f_Reading_init) {a : Addr} {fd : FuncData} (F : Fun K "read_errand" "read_errand" (topS 19) a fd) :
    FnG P w K mg base (L2.CX P w) 30 a fd ["text"] (spF K mg 1 G.f_read_errand) :=
  fnRule 1 F sc_read_errand (by decide) fun cdv A outer s H E c =>
    (ess_cons (es_set 1 (by decide) c.nd rfl (by first | exact Or.inl rfl | exact Or.inr rfl) (ev_mk c C_Reading_init (by omega) (by rfl) (eu_sl 0 (eu_val ev_int eu_nil))))
    (ess_cons (es_set 2 (by decide) c.nd rfl (by first | exact Or.inl rfl | exact Or.inr rfl) (ev_methS0 1 c C_Reading_take_errand (by omega)))
    (ess_cons (es_expr (ev_methS0 1 c C_Reading_end (by omega)))
    (ess_one (es_ret (ev_mv 2))))))
theorem sc_read_test : FnScope ["text", "reading", "found"] ["text"] (defScope (topS 20)) := ⟨rfl, rfl, rfl, by decide +kernel, rfl, by decide +kernel, by decide +kernel⟩
theorem ok_read_test {P : Program} {w : World} {K : PySem.W.Frag} {mg : Str → Option Value} {base : Heap} (B : Nm K w mg) (C_Reading_end : Methd P w K mg base "Reading" "end" 4 1 [] G.f_Reading_end) (C_Reading_take_test : Methd P w K mg base "Reading" "take_test" 17 1 [] (G.f_Reading_take_test 12)) (C_Reading_init : Maker P w K mg base "Reading" 1 3 [] G.f_Reading_init) {a : Addr} {fd : FuncData} (F : Fun K "read_test" "read_test" (topS 20) a fd) :
    FnG P w K mg base (L2.CX P w) 18 a fd ["text"] (spF K mg 1 G.f_read_test) :=
  fnRule 1 F sc_read_test (by decide) fun cdv A outer s H E c =>
    (ess_cons (es_set 1 (by decide) c.nd rfl (by first | exact Or.inl rfl | exact Or.inr rfl) (ev_mk c C_Reading_init (by omega) (by rfl) (eu_sl 0 (eu_val ev_int eu_nil))))
    (ess_cons (es_set 2 (by decide) c.nd rfl (by first | exact Or.inl rfl | exact Or.inr rfl) (ev_methS0 1 c C_Reading_take_test (by omega)))
    (ess_cons (es_expr (ev_methS0 1 c C_Reading_end (by omega)))
    (ess_one (es_ret (ev_mv 2))))))
theorem sc_law_box : FnScope ["_law_script", "_law_k", "_law_cell", "_law_seed"] ["_law_script", "_law_k"] (defScope (topS 22)) := ⟨rfl, rfl, rfl, by decide +kernel, rfl, by decide +kernel, by decide +kernel⟩
theorem ok_law_box {P : Program} {w : World} {K : PySem.W.Frag} {mg : Str → Option Value} {base : Heap} (B : Nm K w mg) {a : Addr} {fd : FuncData} (F : Fun K "_law_box" "_law_box" (topS 22) a fd) :
    FnG P w K mg base (L2.CX P w) 1 a fd ["_law_script", "_law_k"] (spF K mg 2 G.f_law_box) :=
  fnRule 2 F sc_law_box (by decide) fun cdv A outer s H E c =>
    (ess_cons (es_set 2 (by decide) c.nd rfl (by first | exact Or.inl rfl | exact Or.inr rfl) (ev_op op_add4 pr_add (eas_p (ev_op op_mul pr_mul (eas_p ev_int.p (eas_p (ep_pk 1) eas_nil))).p (eas_p ev_int.p eas_nil))))
    (ess_cons (es_if (et_cmp op_lt pr_lt (eas_p (ep_pk 1) (eas_p (ev_bi call_len pr_len B.m_len boot_len_ (eas_p (ep_pk 0) eas_nil)).p eas_nil)) (nomark _)) (ess_one (es_set 2 (by decide) c.nd rfl (by first | exact Or.inl rfl | exact Or.inr rfl) (ev_ix ix_seq pr_ix (eas_p (ep_pk 0) (eas_p (ep_pk 1) eas_nil))))) (ess_one (es_if (et_cmp op_gt pr_gt (eas_p (ev_bi call_len pr_len B.m_len boot_len_ (eas_p (ep_pk 0) eas_nil)).p (eas_p ev_int.p eas_nil)) (nomark _)) (ess_one (es_set 2 (by decide) c.nd rfl (by first | exact Or.inl rfl | exact Or.inr rfl) (ev_op op_add4 pr_add (eas_p (ep_pk 2) (eas_p (ev_op op_mul pr_mul (eas_p (ev_op op_mod pr_mod (eas_p (ev_ix ix_seq pr_ix (eas_p (ep_pk 0) (eas_p (ev_op op_mod pr_mod (eas_p (ep_pk 1) (eas_p (ev_bi call_len pr_len B.m_len boot_len_ (eas_p (ep_pk 0) eas_nil)).p eas_nil))).p eas_nil))).p (eas_p ev_int.p eas_nil))).p (eas_p ev_int.p eas_nil))).p eas_nil))))) ess_nil)))
    (ess_cons (es_set 3 (by decide) c.nd rfl (by first | exact Or.inl rfl | exact Or.inr rfl) (ev_op op_add4 pr_add (eas_p (ev_op op_mod pr_mod (eas_p (ev_op op_add4 pr_add (eas_p (ev_op op_mul pr_mul (eas_p (ev_op op_mod pr_mod (eas_p (ep_pk 2) (eas_p ev_int.p eas_nil))).p (eas_p ev_int.p eas_nil))).p (eas_p (ev_op op_mul pr_mul (eas_p ev_int.p (eas_p (ep_pk 1) eas_nil))).p eas_nil))).p (eas_p ev_int.p eas_nil))).p (eas_p ev_int.p eas_nil))))
    (ess_cons (es_if (et_cmp op_lt pr_lt (eas_p (ep_pk 2) (eas_p (ev_op op_pow pr_pow (eas_p ev_int.p (eas_p ev_int.p eas_nil))).p eas_nil)) (nomark _)) (ess_one (es_set 2 (by decide) c.nd rfl (by first | exact Or.inl rfl | exact Or.inr rfl) ev_int)) ess_nil)
    (ess_one (es_ret (ev_lst (ees_cons (ev_fz 2) (ees_cons (ev_fz 3) ees_nil)))))))))
theorem sc_law_take : FnScope ["_law_box_here", "_law_many", "_law_digit", "_law_one"] ["_law_box_here", "_law_many"] (defScope (topS 23)) := ⟨rfl, rfl, rfl, by decide +kernel, rfl, by decide +kernel, by decide +kernel⟩
theorem ok_law_take {P : Program} {w : World} {K : PySem.W.Frag} {mg : Str → Option Value} {base : Heap} (B : Nm K w mg) {a : Addr} {fd : FuncData} (F : Fun K "_law_take" "_law_take" (topS 23) a fd) :
    FnG P w K mg base (L2.CX P w) 1 a fd ["_law_box_here", "_law_many"] (spF K mg 2 G.f_law_take) :=
  fnRule 2 F sc_law_take (by decide) fun cdv A outer s H E c =>
    (ess_cons (es_if (et_cmp op_gt pr_gt (eas_p (ev_ix ix_seq pr_ix (eas_p (ep_pk 0) (eas_p ev_int.p eas_nil))).p (eas_p ev_int.p eas_nil)) (nomark _)) (ess_cons (es_set 2 (by decide) c.nd rfl (by first | exact Or.inl rfl | exact Or.inr rfl) (ev_op op_mod pr_mod (eas_p (ev_ix ix_seq pr_ix (eas_p (ep_pk 0) (eas_p ev_int.p eas_nil))).p (eas_p (ep_pk 1) eas_nil))))
    (ess_cons (es_asg (ev_op op_fdivW pr_div (eas_p (ev_ix ix_seq pr_ix (eas_p (ep_pk 0) (eas_p ev_int.p eas_nil))).p (eas_p (ep_pk 1) eas_nil))) (eg_ix 0 ev_int))
    (ess_one (es_ret (ev_mv 2))))) ess_nil)
    (ess_cons (es_set 3 (by decide) c.nd rfl (by first | exact Or.inl rfl | exact Or.inr rfl) (ev_op op_mod pr_mod (eas_p (ev_op op_mul pr_mul (eas_p (ev_ix ix_seq pr_ix (eas_p (ep_pk 0) (eas_p ev_int.p eas_nil))).p (eas_p ev_int.p eas_nil))).p (eas_p ev_int.p eas_nil))))
    (ess_cons (es_asg (ev_op op_add4 pr_add (eas_p (ev_op op_mod pr_mod (eas_p (ev_op op_add4 pr_add (eas_p (ev_op op_mul pr_mul (eas_p (ep_pk 3) (eas_p ev_int.p eas_nil))).p (eas_p ev_int.p eas_nil))).p (eas_p ev_int.p eas_nil))).p (eas_p ev_int.p eas_nil))) (eg_ix 0 ev_int))
    (ess_one (es_ret (ev_op op_mod pr_mod (eas_p (ev_op op_fdivW pr_div (eas_p (ev_op op_add4 pr_add (eas_p (ev_op op_mul pr_mul (eas_p (ep_pk 3) (eas_p ev_int.p eas_nil))).p (eas_p (ev_ix ix_seq pr_ix (eas_p (ep_pk 0) (eas_p ev_int.p eas_nil))).p eas_nil))).p (eas_p ev_int.p eas_nil))).p (eas_p (ep_pk 1) eas_nil))))))))
theorem sc_law_taken : FnScope ["_law_some"] [] (defScope (topS 24)) := ⟨rfl, rfl, rfl, by decide +kernel, rfl, by decide +kernel, by decide +kernel⟩
theorem ok_law_taken {P : Program} {w : World} {K : PySem.W.Frag} {mg : Str → Option Value} {base : Heap} (B : Nm K w mg) {a : Addr} {fd : FuncData} (F : Fun K "_law_taken" "_law_taken" (topS 24) a fd) :
    FnG P w K mg base (L2.CX P w) 1 a fd [] (spF K mg 0 G.f_law_taken) :=
  fnRule 0 F sc_law_taken (by decide) fun cdv A outer s H E c =>
    (ess_cons (es_set 0 (by decide) c.nd rfl (by first | exact Or.inl rfl | exact Or.inr rfl) (ev_lst (ees_cons ev_str (ees_cons ev_str (ees_cons ev_str (ees_cons ev_str (ees_cons ev_str (ees_cons ev_str (ees_cons ev_str (ees_cons ev_str (ees_cons ev_str (ees_cons ev_str (ees_cons ev_str (ees_cons ev_str (ees_cons ev_str ees_nil)))))))))))))))
    (ess_one (es_ret (ev_op op_add4 pr_add (eas_p (ep_pk 0) (eas_p (ev_lst (ees_cons ev_str (ees_cons ev_str (ees_cons ev_str (ees_cons ev_str (ees_cons ev_str (ees_cons ev_str ees_nil))))))).p eas_nil))))))
theorem sc_law_name : FnScope ["_law_box_here", "_law_letters", "_law_name_here", "_law_word", "_law_at", "_law_some", "_law_k"] ["_law_box_here"] (defScope (topS 25)) := ⟨rfl, rfl, rfl, by decide +kernel, rfl, by decide +kernel, by decide +kernel⟩
theorem ok_law_name {P : Program} {w : World} {K : PySem.W.Frag} {mg : Str → Option Value} {base : Heap} (B : Nm K w mg) (C_law_taken : Callee P w K mg base "_law_taken" 1 0 [] G.f_law_taken) (C_law_take : Callee P w K mg base "_law_take" 1 2 [] G.f_law_take) {a : Addr} {fd : FuncData} (F : Fun K "_law_name" "_law_name" (topS 25) a fd) :
    FnG P w K mg base (L2.CX P w) 2 a fd ["_law_box_here"] (spF K mg 1 G.f_law_name) :=
  fnRule 1 F sc_law_name (by decide) fun cdv A outer s H E c =>
    (ess_cons (es_set 1 (by decide) c.nd rfl (by first | exact Or.inl rfl | exact Or.inr rfl) ev_str)
    (ess_cons (es_set 2 (by decide) c.nd rfl (by first | exact Or.inl rfl | exact Or.inr rfl) (ev_join ev_str (ev_comp c (own := [("_law_k", 6)]) (ei_range1 (ees_cons (ev_op op_add4 pr_add (eas_e ev_int (eas_p (ev_call c C_law_take (by omega) (by rfl) (eu_sl 0 (eu_val ev_int eu_nil))).p eas_nil))) ees_nil) (by rfl) B.m_range) (blkOk_by (by kernel_rfl)) (fun bi => (eb_name 6 (by decide) (c.blk _ bi).nd rfl (by first | exact Or.inl rfl | exact Or.inr rfl))) (fun bi => ec_yes) (fun bi => (ev_ix ix_seq pr_ix (eas_e (ev_fz 1) (eas_p (ev_call (c.blk _ bi) C_law_take (by omega) (by rfl) (eu_sl 0 (eu_val ev_int eu_nil))).p eas_nil))))).1.p))
    (ess_cons (es_if (et_cmp (op_eq2 c.hr.units) pr_eq (eas_p (ev_call c C_law_take (by omega) (by rfl) (eu_sl 0 (eu_val ev_int eu_nil))).p (eas_p ev_int.p eas_nil)) (nomark _)) (ess_cons (es_set 3 (by decide) c.nd rfl (by first | exact Or.inl rfl | exact Or.inr rfl) (ev_ix ix_seq pr_ix (eas_e (ev_call0 c C_law_taken (by omega) (by rfl)) (eas_p (ev_call c C_law_take (by omega) (by rfl) (eu_sl 0 (eu_val ev_int eu_nil))).p eas_nil))))
    (ess_cons (es_set 4 (by decide) c.nd rfl (by first | exact Or.inl rfl | exact Or.inr rfl) (ev_call c C_law_take (by omega) (by rfl) (eu_sl 0 (eu_val (ev_op op_add4 pr_add (eas_p (ev_bi call_len pr_len B.m_len boot_len_ (eas_p (ep_pk 3) eas_nil)).p (eas_p ev_int.p eas_nil))) eu_nil))))
    (ess_cons (es_set 5 (by decide) c.nd rfl (by first | exact Or.inl rfl | exact Or.inr rfl) (ev_lst (ees_cons (ev_op op_add4 pr_add (eas_p (ev_slHi (eas_p (ep_pk 3) (eas_p (ep_pk 4) eas_nil))).p (eas_p (ev_slLo (eas_p (ep_pk 3) (eas_p (ev_op op_add4 pr_add (eas_p (ep_pk 4) (eas_p ev_int.p eas_nil))).p eas_nil))).p eas_nil))) (ees_cons (ev_op op_add4 pr_add (eas_p (ev_op op_add4 pr_add (eas_p (ev_slHi (eas_p (ep_pk 3) (eas_p (ep_pk 4) eas_nil))).p (eas_p (ev_ix ix_seq pr_ix (eas_p (ep_pk 2) (eas_p ev_int.p eas_nil))).p eas_nil))).p (eas_p (ev_slLo (eas_p (ep_pk 3) (eas_p (ep_pk 4) eas_nil))).p eas_nil))) (ees_cons (ev_op op_add4 pr_add (eas_p (ev_op op_add4 pr_add (eas_p (ev_slHi (eas_p (ep_pk 3) (eas_p (ep_pk 4) eas_nil))).p (eas_p (ev_ix ix_seq pr_ix (eas_p (ep_pk 2) (eas_p ev_int.p eas_nil))).p eas_nil))).p (eas_p (ev_slLo (eas_p (ep_pk 3) (eas_p (ev_op op_add4 pr_add (eas_p (ep_pk 4) (eas_p ev_int.p eas_nil))).p eas_nil))).p eas_nil))) ees_nil)))))
    (ess_one (es_set 2 (by decide) c.nd rfl (by first | exact Or.inl rfl | exact Or.inr rfl) (ev_slHi (eas_p (ev_ix ix_seq pr_ix (eas_e (ev_fz 5) (eas_p (ev_call c C_law_take (by omega) (by rfl) (eu_sl 0 (eu_val ev_int eu_nil))).p eas_nil))).p (eas_p ev_int.p eas_nil)))))))) ess_nil)
    (ess_cons (es_if (et_cmp (op_eq2 c.hr.units) pr_eq (eas_p (ev_call c C_law_take (by omega) (by rfl) (eu_sl 0 (eu_val ev_int eu_nil))).p (eas_p ev_int.p eas_nil)) (nomark _)) (ess_one (es_set 2 (by decide) c.nd rfl (by first | exact Or.inl rfl | exact Or.inr rfl) (ev_ix ix_seq pr_ix (eas_e (ev_lst (ees_cons ev_str (ees_cons ev_str ees_nil))) (eas_p (ev_call c C_law_take (by omega) (by rfl) (eu_sl 0 (eu_val ev_int eu_nil))).p eas_nil))))) ess_nil)
    (ess_cons (es_if (ew_or (et_cmp (op_eq2 c.hr.units) pr_eq (eas_p (ep_pk 2) (eas_p ev_str.p eas_nil)) (nomark _)) (ew_or1 (et_cmp op_in2 pr_in (eas_e (ev_fz 2) (eas_p (ev_call0 c C_law_taken (by omega) (by rfl)).p eas_nil)) rfl))).t (ess_one (es_set 2 (by decide) c.nd rfl (by first | exact Or.inl rfl | exact Or.inr rfl) ev_str)) ess_nil)
    (ess_one (es_ret (ev_mv 2))))))))
theorem sc_law_any_test : FnScope ["_law_box_here", "_law_asks", "_law_room", "_law_deep", "_law_form", "_law_some", "_law_first", "_law_one"] ["_law_box_here", "_law_asks", "_law_room", "_law_deep"] (defScope (topS 26)) := ⟨rfl, rfl, rfl, by decide +kernel, rfl, by decide +kernel, by decide +kernel⟩
theorem ok_law_any_test {P : Program} {w : World} {K : PySem.W.Frag} {mg : Str → Option Value} {base : Heap} (B : Nm K w mg) (C_law_take : Callee P w K mg base "_law_take" 1 2 [] G.f_law_take) {a : Addr} {fd : FuncData} (F : Fun K "_law_any_test" "_law_any_test" (topS 26) a fd) (mn : mg "_law_any_test" = some (.ref a)) (kp : PySem.W.keepIn K (.ref a) = true) (bd : L2.Binds K fd ["_law_box_here", "_law_asks", "_law_room", "_law_deep"] []) : ∀ n : Nat,
    FnG P w K mg base (L2.CX P w) (1 + n) a fd ["_law_box_here", "_law_asks", "_law_room", "_law_deep"] (spF K mg 4 (G.f_law_any_test n))
  | 0 => fnBad rfl
  | n + 1 => by
    have C_law_any_test : Callee P w K mg base "_law_any_test" (1 + n) 4 [] (G.f_law_any_test n) := ⟨_, _, _, [], [], ok_law_any_test B C_law_take F mn kp bd n, mn, kp, bd, .nil, fun _ => .nil⟩
    exact fnRule (k := 1 + n) 4 F sc_law_any_test (by decide) fun cdv A outer s H E c =>
    (ess_cons (es_set 4 (by decide) c.nd rfl (by first | exact Or.inl rfl | exact Or.inr rfl) (ev_call c C_law_take (by omega) (by rfl) (eu_sl 0 (eu_val ev_int eu_nil))))
    (ess_cons (es_if (ew_or (et_cmp op_lt pr_lt (eas_p (ep_pk 2) (eas_p ev_int.p eas_nil)) (nomark _)) (ew_or (et_cmp (op_eq2 c.hr.units) pr_eq (eas_p (ep_pk 3) (eas_p ev_int.p eas_nil)) (nomark _)) (ew_or1 (et_cmp op_lt pr_lt (eas_p (ep_pk 4) (eas_p ev_int.p eas_nil)) (nomark _))))).t (ess_cons (es_set 5 (by decide) c.nd rfl (by first | exact Or.inl rfl | exact Or.inr rfl) (ev_lst (ees_cons (ev_tup (ees_cons ev_str ees_nil)) (ees_cons (ev_tup (ees_cons ev_str ees_nil)) ees_nil))))
    (ess_cons (es_if (ew_and (et_cmp op_gt pr_gt (eas_p (ev_bi call_len pr_len B.m_len boot_len_ (eas_p (ep_pk 1) eas_nil)).p (eas_p ev_int.p eas_nil)) (nomark _)) (ew_and1 (et_cmp op_gt pr_gt (eas_p (ev_call c C_law_take (by omega) (by rfl) (eu_sl 0 (eu_val ev_int eu_nil))).p (eas_p ev_int.p eas_nil)) (nomark _)))).t (ess_one (es_ret (ev_tup (ees_cons ev_str (ees_cons (ev_ix ix_seq pr_ix (eas_e (ev_fz 1) (eas_p (ev_call c C_law_take (by omega) (by rfl) (eu_sl 0 (eu_val (ev_bi call_len pr_len B.m_len boot_len_ (eas_p (ep_pk 1) eas_nil)) eu_nil))).p eas_nil))) ees_nil))))) ess_nil)
    (ess_one (es_ret (ev_ix ix_seq pr_ix (eas_e (ev_fz 5) (eas_p (ev_call c C_law_take (by omega) (by rfl) (eu_sl 0 (eu_val ev_int eu_nil))).p eas_nil))))))) ess_nil)
    (ess_cons (es_if (ew_or (et_cmp (op_eq2 c.hr.units) pr_eq (eas_p (ep_pk 4) (eas_p ev_int.p eas_nil)) (nomark _)) (ew_or1 (et_cmp op_lt pr_lt (eas_p (ep_pk 2) (eas_p ev_int.p eas_nil)) (nomark _)))).t (ess_one (es_ret (ev_tup (ees_cons ev_str (ees_cons (ev_call c C_law_any_test (by omega) (by rfl) (eu_sl 0 (eu_sl 1 (eu_val (ev_op op_sub pr_sub (eas_p (ep_pk 2) (eas_p ev_int.p eas_nil))) (eu_val (ev_op op_sub pr_sub (eas_p (ep_pk 3) (eas_p ev_int.p eas_nil))) eu_nil))))) ees_nil))))) ess_nil)
    (ess_cons (es_set 6 (by decide) c.nd rfl (by first | exact Or.inl rfl | exact Or.inr rfl) (ev_op op_add4 pr_add (eas_e ev_int (eas_p (ev_call c C_law_take (by omega) (by rfl) (eu_sl 0 (eu_val (ev_op op_sub pr_sub (eas_p (ep_pk 2) (eas_p ev_int.p eas_nil))) eu_nil))).p eas_nil))))
    (ess_cons (es_set 7 (by decide) c.nd rfl (by first | exact Or.inl rfl | exact Or.inr rfl) (ev_call c C_law_any_test (by omega) (by rfl) (eu_sl 0 (eu_sl 1 (eu_sl 6 (eu_val (ev_op op_sub pr_sub (eas_p (ep_pk 3) (eas_p ev_int.p eas_nil))) eu_nil))))))
    (ess_one (es_ret (ev_tup (ees_cons (ev_ix ix_seq pr_ix (eas_p (ev_lst (ees_cons ev_str (ees_cons ev_str ees_nil))).p (eas_p (ev_op op_mod pr_mod (eas_p (ep_pk 4) (eas_p ev_int.p eas_nil))).p eas_nil))) (ees_cons (ev_fz 7) (ees_cons (ev_call c C_law_any_test (by omega) (by rfl) (eu_sl 0 (eu_sl 1 (eu_val (ev_op op_sub pr_sub (eas_p (ev_op op_sub pr_sub (eas_p (ep_pk 2) (eas_p ev_int.p eas_nil))).p (eas_p (ep_pk 6) eas_nil))) (eu_val (ev_op op_sub pr_sub (eas_p (ep_pk 3) (eas_p ev_int.p eas_nil))) eu_nil))))) ees_nil)))))))))))
theorem sc_law_leaf : FnScope ["_law_box_here", "_law_deeds", "_law_left"] ["_law_box_here", "_law_deeds", "_law_left"] (defScope (topS 27)) := ⟨rfl, rfl, rfl, by decide +kernel, rfl, by decide +kernel, by decide +kernel⟩
theorem ok_law_leaf {P : Program} {w : World} {K : PySem.W.Frag} {mg : Str → Option Value} {base : Heap} (B : Nm K w mg) (C_law_take : Callee P w K mg base "_law_take" 1 2 [] G.f_law_take) {a : Addr} {fd : FuncData} (F : Fun K "_law_leaf" "_law_leaf" (topS 27) a fd) :
    FnG P w K mg base (L2.CX P w) 2 a fd ["_law_box_here", "_law_deeds", "_law_left"] (spF K mg 3 G.f_law_leaf) :=
  fnRule 3 F sc_law_leaf (by decide) fun cdv A outer s H E c =>
    (ess_cons (es_if (ew_and (et_cmp op_gt pr_gt (eas_p (ev_ix ix_seq pr_ix (eas_p (ep_pk 2) (eas_p ev_int.p eas_nil))).p (eas_p ev_int.p eas_nil)) (nomark _)) (ew_and (et_cmp op_gt pr_gt (eas_p (ev_bi call_len pr_len B.m_len boot_len_ (eas_p (ep_pk 1) eas_nil)).p (eas_p ev_int.p eas_nil)) (nomark _)) (ew_and1 (et_cmp op_gt pr_gt (eas_p (ev_call c C_law_take (by omega) (by rfl) (eu_sl 0 (eu_val ev_int eu_nil))).p (eas_p ev_int.p eas_nil)) (nomark _))))).t (ess_cons (es_asg (ev_op op_sub pr_sub (eas_p (ev_ix ix_seq pr_ix (eas_p (ep_pk 2) (eas_p ev_int.p eas_nil))).p (eas_p ev_int.p eas_nil))) (eg_ix 2 ev_int))
    (ess_one (es_ret (ev_tup (ees_cons ev_str (ees_cons (ev_ix ix_seq pr_ix (eas_e (ev_fz 1) (eas_p (ev_call c C_law_take (by omega) (by rfl) (eu_sl 0 (eu_val (ev_bi call_len pr_len B.m_len boot_len_ (eas_p (ep_pk 1) eas_nil)) eu_nil))).p eas_nil))) ees_nil)))))) ess_nil)
    (ess_one (es_ret (ev_tup (ees_cons ev_str ees_nil)))))
theorem sc_law_any_errand : FnScope ["_law_box_here", "_law_words", "_law_left", "_law_deep", "_law_form", "_law_test", "_law_one", "_law_other"] ["_law_box_here", "_law_words", "_law_left", "_law_deep"] (defScope (topS 28)) := ⟨rfl, rfl, rfl, by decide +kernel, rfl, by decide +kernel, by decide +kernel⟩
theorem ok_law_any_errand {P : Program} {w : World} {K : PySem.W.Frag} {mg : Str → Option Value} {base : Heap} (B : Nm K w mg) (C_law_any_test : Callee P w K mg base "_law_any_test" 10 4 [] (G.f_law_any_test 9)) (C_law_take : Callee P w K mg base "_law_take" 1 2 [] G.f_law_take) (C_law_leaf : Callee P w K mg base "_law_leaf" 2 3 [] G.f_law_leaf) {a : Addr} {fd : FuncData} (F : Fun K "_law_any_errand" "_law_any_errand" (topS 28) a fd) (mn : mg "_law_any_errand" = some (.ref a)) (kp : PySem.W.keepIn K (.ref a) = true) (bd : L2.Binds K fd ["_law_box_here", "_law_words", "_law_left", "_law_deep"] []) : ∀ n : Nat,
    FnG P w K mg base (L2.CX P w) (10 + n) a fd ["_law_box_here", "_law_words", "_law_left", "_law_deep"] (spF K mg 4 (f_law_any_errand n))
  | 0 => fnBad rfl
  | n + 1 => by
    have C_law_any_errand : Callee P w K mg base "_law_any_errand" (10 + n) 4 [] (f_law_any_errand n) := ⟨_, _, _, [], [], ok_law_any_errand B C_law_any_test C_law_take C_law_leaf F mn kp bd n, mn, kp, bd, .nil, fun _ => .nil⟩
    exact fnRule (k := 10 + n) 4 F sc_law_any_errand (by decide) fun cdv A outer s H E c =>
    (ess_cons (es_set 4 (by decide) c.nd rfl (by first | exact Or.inl rfl | exact Or.inr rfl) (ev_call c C_law_take (by omega) (by rfl) (eu_sl 0 (eu_val ev_int eu_nil))))
    (ess_cons (es_if (ew_or (et_cmp (op_eq2 c.hr.units) pr_eq (eas_p (ep_pk 3) (eas_p ev_int.p eas_nil)) (nomark _)) (ew_or (et_cmp op_lt pr_lt (eas_p (ev_ix ix_seq pr_ix (eas_p (ep_pk 2) (eas_p ev_int.p eas_nil))).p (eas_p ev_int.p eas_nil)) (nomark _)) (ew_or1 (et_cmp (op_eq2 c.hr.units) pr_eq (eas_p (ep_pk 4) (eas_p ev_int.p eas_nil)) (nomark _))))).t (ess_one (es_ret (ev_call c C_law_leaf (by omega) (by rfl) (eu_sl 0 (eu_val (ev_ix ix_seq pr_ix (eas_p (ep_pk 1) (eas_p ev_int.p eas_nil))) (eu_sl 2 eu_nil)))))) ess_nil)
    (ess_cons (es_if (et_cmp (op_eq2 c.hr.units) pr_eq (eas_p (ep_pk 4) (eas_p ev_int.p eas_nil)) (nomark _)) (ess_cons (es_asg (ev_op op_sub pr_sub (eas_p (ev_ix ix_seq pr_ix (eas_p (ep_pk 2) (eas_p ev_int.p eas_nil))).p (eas_p ev_int.p eas_nil))) (eg_ix 2 ev_int))
    (ess_one (es_ret (ev_tup (ees_cons ev_str (ees_cons (ev_call c C_law_any_errand (by omega) (by rfl) (eu_sl 0 (eu_sl 1 (eu_sl 2 (eu_val (ev_op op_sub pr_sub (eas_p (ep_pk 3) (eas_p ev_int.p eas_nil))) eu_nil))))) ees_nil)))))) ess_nil)
    (ess_cons (es_set 5 (by decide) c.nd rfl (by first | exact Or.inl rfl | exact Or.inr rfl) (ev_call c C_law_any_test (by omega) (by rfl) (eu_sl 0 (eu_val (ev_ix ix_seq pr_ix (eas_p (ep_pk 1) (eas_p ev_int.p eas_nil))) (eu_val (ev_op op_add4 pr_add (eas_e ev_int (eas_p (ev_call c C_law_take (by omega) (by rfl) (eu_sl 0 (eu_val ev_int eu_nil))).p eas_nil))) (eu_val (ev_op op_sub pr_sub (eas_p (ep_pk 3) (eas_p ev_int.p eas_nil))) eu_nil))))))
    (ess_cons (es_if (et_cmp (op_eq2 c.hr.units) pr_eq (eas_p (ep_pk 4) (eas_p ev_int.p eas_nil)) (nomark _)) (ess_cons (es_asg (ev_op op_sub pr_sub (eas_p (ev_ix ix_seq pr_ix (eas_p (ep_pk 2) (eas_p ev_int.p eas_nil))).p (eas_p ev_int.p eas_nil))) (eg_ix 2 ev_int))
    (ess_one (es_ret (ev_tup (ees_cons ev_str (ees_cons (ev_fz 5) (ees_cons (ev_call c C_law_any_errand (by omega) (by rfl) (eu_sl 0 (eu_sl 1 (eu_sl 2 (eu_val (ev_op op_sub pr_sub (eas_p (ep_pk 3) (eas_p ev_int.p eas_nil))) eu_nil))))) ees_nil))))))) ess_nil)
    (ess_cons (es_asg (ev_op op_sub pr_sub (eas_p (ev_ix ix_seq pr_ix (eas_p (ep_pk 2) (eas_p ev_int.p eas_nil))).p (eas_p ev_int.p eas_nil))) (eg_ix 2 ev_int))
    (ess_cons (es_set 6 (by decide) c.nd rfl (by first | exact Or.inl rfl | exact Or.inr rfl) (ev_call c C_law_any_errand (by omega) (by rfl) (eu_sl 0 (eu_sl 1 (eu_sl 2 (eu_val (ev_op op_sub pr_sub (eas_p (ep_pk 3) (eas_p ev_int.p eas_nil))) eu_nil))))))
    (ess_cons (es_set 7 (by decide) c.nd rfl (by first | exact Or.inl rfl | exact Or.inr rfl) (ev_call c C_law_any_errand (by omega) (by rfl) (eu_sl 0 (eu_sl 1 (eu_sl 2 (eu_val (ev_op op_sub pr_sub (eas_p (ep_pk 3) (eas_p ev_int.p eas_nil))) eu_nil))))))
    (ess_one (es_ret (ev_ix ix_seq pr_ix (eas_p (ev_lst (ees_cons (ev_tup (ees_cons ev_str (ees_cons (ev_fz 6) (ees_cons (ev_fz 7) ees_nil)))) (ees_cons (ev_tup (ees_cons ev_str (ees_cons (ev_fz 5) (ees_cons (ev_fz 6) (ees_cons (ev_fz 7) ees_nil))))) (ees_cons (ev_tup (ees_cons ev_str (ees_cons (ev_fz 6) (ees_cons (ev_fz 7) ees_nil)))) ees_nil)))).p (eas_p (ev_op op_mod pr_mod (eas_p (ep_pk 4) (eas_p ev_int.p eas_nil))).p eas_nil)))))))))))))
theorem sc_law_test_said : FnScope ["_law_test", "_law_one"] ["_law_test"] (defScope (topS 29)) := ⟨rfl, rfl, rfl, by decide +kernel, rfl, by decide +kernel, by decide +kernel⟩
theorem ok_law_test_said {P : Program} {w : World} {K : PySem.W.Frag} {mg : Str → Option Value} {base : Heap} (B : Nm K w mg) {a : Addr} {fd : FuncData} (F : Fun K "_law_test_said" "_law_test_said" (topS 29) a fd) (mn : mg "_law_test_said" = some (.ref a)) (kp : PySem.W.keepIn K (.ref a) = true) (bd : L2.Binds K fd ["_law_test"] []) : ∀ n : Nat,
    FnG P w K mg base (L2.CX P w) (0 + n) a fd ["_law_test"] (spF K mg 1 (G.f_law_test_said n))
  | 0 => fnBad rfl
  | n + 1 => by
    have C_law_test_said : Callee P w K mg base "_law_test_said" (0 + n) 1 [] (G.f_law_test_said n) := ⟨_, _, _, [], [], ok_law_test_said B F mn kp bd n, mn, kp, bd, .nil, fun _ => .nil⟩
    exact fnRule (k := 0 + n) 1 F sc_law_test_said (by decide) fun cdv A outer s H E c =>
    (ess_cons (es_if (et_cmp (op_eq2 c.hr.units) pr_eq (eas_p (ev_ix ix_seq pr_ix (eas_p (ep_pk 0) (eas_p ev_int.p eas_nil))).p (eas_p ev_str.p eas_nil)) (nomark _)) (ess_one (es_ret (ev_ix ix_seq pr_ix (eas_p (ep_pk 0) (eas_p ev_int.p eas_nil))))) ess_nil)
    (ess_cons (es_if (et_cmp (op_eq2 c.hr.units) pr_eq (eas_p (ev_bi call_len pr_len B.m_len boot_len_ (eas_p (ep_pk 0) eas_nil)).p (eas_p ev_int.p eas_nil)) (nomark _)) (ess_one (es_ret (ev_ix ix_seq pr_ix (eas_p (ep_pk 0) (eas_p ev_int.p eas_nil))))) ess_nil)
    (ess_one (es_ret (ev_op op_add4 pr_add (eas_p (ev_op op_add4 pr_add (eas_e ev_str (eas_p (ev_join ev_str (ev_op op_add4 pr_add (eas_e (ev_lst (ees_cons (ev_ix ix_seq pr_ix (eas_p (ep_pk 0) (eas_p ev_int.p eas_nil))) ees_nil)) (eas_p (ev_comp c (own := [("_law_one", 1)]) (ei_seq (ev_slLo (eas_p (ep_pk 0) (eas_p ev_int.p eas_nil)))) (blkOk_by (by kernel_rfl)) (fun bi => (eb_name 1 (by decide) (c.blk _ bi).nd rfl (by first | exact Or.inl rfl | exact Or.inr rfl))) (fun bi => ec_yes) (fun bi => (ev_call (c.blk _ bi) C_law_test_said (by omega) (by rfl) (eu_sl 1 eu_nil)))).1.p eas_nil))).p).p eas_nil))).p (eas_p ev_str.p eas_nil)))))))
theorem sc_law_errand_said : FnScope ["_law_errand", "_law_some", "_law_words", "_law_one"] ["_law_errand"] (defScope (topS 30)) := ⟨rfl, rfl, rfl, by decide +kernel, rfl, by decide +kernel, by decide +kernel⟩
theorem ok_law_errand_said {P : Program} {w : World} {K : PySem.W.Frag} {mg : Str → Option Value} {base : Heap} (B : Nm K w mg) (C_law_test_said : Callee P w K mg base "_law_test_said" 12 1 [] (G.f_law_test_said 12)) {a : Addr} {fd : FuncData} (F : Fun K "_law_errand_said" "_law_errand_said" (topS 30) a fd) (mn : mg "_law_errand_said" = some (.ref a)) (kp : PySem.W.keepIn K (.ref a) = true) (bd : L2.Binds K fd ["_law_errand"] []) : ∀ n : Nat,
    FnG P w K mg base (L2.CX P w) (12 + n) a fd ["_law_errand"] (spF K mg 1 (G.f_law_errand_said n))
  | 0 => fnBad rfl
  | n + 1 => by
    have C_law_errand_said : Callee P w K mg base "_law_errand_said" (12 + n) 1 [] (G.f_law_errand_said n) := ⟨_, _, _, [], [], ok_law_errand_said B C_law_test_said F mn kp bd n, mn, kp, bd, .nil, fun _ => .nil⟩
    exact fnRule (k := 12 + n) 1 F sc_law_errand_said (by decide) fun cdv A outer s H E c =>
    (ess_cons (es_if (et_cmp (op_eq2 c.hr.units) pr_eq (eas_p (ev_ix ix_seq pr_ix (eas_p (ep_pk 0) (eas_p ev_int.p eas_nil))).p (eas_p ev_str.p eas_nil)) (nomark _)) (ess_one (es_ret ev_str)) ess_nil)
    (ess_cons (es_if (et_cmp (op_eq2 c.hr.units) pr_eq (eas_p (ev_ix ix_seq pr_ix (eas_p (ep_pk 0) (eas_p ev_int.p eas_nil))).p (eas_p ev_str.p eas_nil)) (nomark _)) (ess_one (es_ret (ev_ix ix_seq pr_ix (eas_p (ep_pk 0) (eas_p ev_int.p eas_nil))))) ess_nil)
    (ess_cons (es_set 1 (by decide) c.nd rfl (by first | exact Or.inl rfl | exact Or.inr rfl) (ev_ty call_list_of pr_lst B.m_list boot_list_ (eas_p (ev_slLo (eas_p (ep_pk 0) (eas_p ev_int.p eas_nil))).p eas_nil)))
    (ess_cons (es_set 2 (by decide) c.nd rfl (by first | exact Or.inl rfl | exact Or.inr rfl) (ev_lst (ees_cons (ev_ix ix_seq pr_ix (eas_p (ep_pk 0) (eas_p ev_int.p eas_nil))) ees_nil)))
    (ess_cons (es_if (et_cmp op_in2 pr_in (eas_p (ev_ix ix_seq pr_ix (eas_p (ep_pk 0) (eas_p ev_int.p eas_nil))).p (eas_p (ev_tup (ees_cons ev_str (ees_cons ev_str ees_nil))).p eas_nil)) rfl) (ess_one (es_expr (ev_app 2 (ev_call c C_law_test_said (by omega) (by rfl) (eu_val (ev_popAt 1 ev_int) eu_nil))))) ess_nil)
    (ess_one (es_ret (ev_op op_add4 pr_add (eas_p (ev_op op_add4 pr_add (eas_e ev_str (eas_p (ev_join ev_str (ev_op op_add4 pr_add (eas_e (ev_fz 2) (eas_p (ev_comp c (own := [("_law_one", 3)]) (ei_seq (ev_fz 1)) (blkOk_by (by kernel_rfl)) (fun bi => (eb_name 3 (by decide) (c.blk _ bi).nd rfl (by first | exact Or.inl rfl | exact Or.inr rfl))) (fun bi => ec_yes) (fun bi => (ev_call (c.blk _ bi) C_law_errand_said (by omega) (by rfl) (eu_sl 3 eu_nil)))).1.p eas_nil))).p).p eas_nil))).p (eas_p ev_str.p eas_nil))))))))))
theorem sc_law_is_name : FnScope ["_law_word", "_law_sign"] ["_law_word"] (defScope (topS 31)) := ⟨rfl, rfl, rfl, by decide +kernel, rfl, by decide +kernel, by decide +kernel⟩
theorem ok_law_is_name {P : Program} {w : World} {K : PySem.W.Frag} {mg : Str → Option Value} {base : Heap} (B : Nm K w mg) (C_law_taken : Callee P w K mg base "_law_taken" 1 0 [] G.f_law_taken) {a : Addr} {fd : FuncData} (F : Fun K "_law_is_name" "_law_is_name" (topS 31) a fd) :
    FnG P w K mg base (L2.CX P w) 2 a fd ["_law_word"] (spF K mg 1 G.f_law_is_name) :=
  fnRule 1 F sc_law_is_name (by decide) fun cdv A outer s H E c =>
    (ess_cons (es_if (et_cmp op_in2 pr_in (eas_e (ev_fz 0) (eas_p (ev_call0 c C_law_taken (by omega) (by rfl)).p eas_nil)) rfl) (ess_one (es_ret ev_bl)) ess_nil)
    (ess_one (es_ret (ev_and (ev_chain op_lt op_lt pr_lt pr_lt ev_int (ev_bi call_len pr_len B.m_len boot_len_ (eas_p (ep_pk 0) eas_nil)) ev_int rfl) (ev_one (ev_bi (cr_all c.calm) pr_all B.m_all boot_all_ (eas_p (ev_comp c (own := [("_law_sign", 1)]) (ei_seq (ev_fz 0)) (blkOk_by (by kernel_rfl)) (fun bi => (eb_name 1 (by decide) (c.blk _ bi).nd rfl (by first | exact Or.inl rfl | exact Or.inr rfl))) (fun bi => ec_yes) (fun bi => (ev_cmp op_in2 pr_in (eas_p (ep_pk 1) (eas_p ev_str.p eas_nil)) rfl))).1.p eas_nil)))))))
theorem sc_law_is_part : FnScope ["_law_word", "_law_sort"] ["_law_word", "_law_sort"] (defScope (topS 32)) := ⟨rfl, rfl, rfl, by decide +kernel, rfl, by decide +kernel, by decide +kernel⟩
theorem ok_law_is_part {P : Program} {w : World} {K : PySem.W.Frag} {mg : Str → Option Value} {base : Heap} (B : Nm K w mg) (C_law_is_name : Callee P w K mg base "_law_is_name" 2 1 [] G.f_law_is_name) {a : Addr} {fd : FuncData} (F : Fun K "_law_is_part" "_law_is_part" (topS 32) a fd) :
    FnG P w K mg base (L2.CX P w) 3 a fd ["_law_word", "_law_sort"] (spF K mg 2 G.f_law_is_part) :=
  fnRule 2 F sc_law_is_part (by decide) fun cdv A outer s H E c =>
    (ess_cons (es_if (et_cmp (op_eq2 c.hr.units) pr_eq (eas_p (ep_pk 1) (eas_p ev_str.p eas_nil)) (nomark _)) (ess_one (es_ret (ev_or (ev_cmp op_in2 pr_in (eas_p (ep_pk 0) (eas_p (ev_tup (ees_cons ev_str (ees_cons ev_str (ees_cons ev_str ees_nil)))).p eas_nil)) rfl) (ev_one (ev_call c C_law_is_name (by omega) (by rfl) (eu_sl 0 eu_nil)))))) ess_nil)
    (ess_one (es_ret (ev_or (ev_cmp op_in2 pr_in (eas_p (ep_pk 0) (eas_p (ev_tup (ees_cons ev_str (ees_cons ev_str ees_nil))).p eas_nil)) rfl) (ev_one (ev_call c C_law_is_name (by omega) (by rfl) (eu_sl 0 eu_nil)))))))
theorem sc_law_bracket : FnScope ["_law_inside", "_law_words", "_law_sorts", "_law_due", "_law_word", "_law_sort"] ["_law_inside"] (defScope (topS 33)) := ⟨rfl, rfl, rfl, by decide +kernel, rfl, by decide +kernel, by decide +kernel⟩
theorem ok_law_bracket {P : Program} {w : World} {K : PySem.W.Frag} {mg : Str → Option Value} {base : Heap} (B : Nm K w mg) (C_law_is_part : Callee P w K mg base "_law_is_part" 3 2 [] G.f_law_is_part) {a : Addr} {fd : FuncData} (F : Fun K "_law_bracket" "_law_bracket" (topS 33) a fd) :
    FnG P w K mg base (L2.CX P w) 4 a fd ["_law_inside"] (spF K mg 1 G.f_law_bracket) :=
  fnRule 1 F sc_law_bracket (by decide) fun cdv A outer s H E c =>
    (ess_cons (es_set 1 (by decide) c.nd rfl (by first | exact Or.inl rfl | exact Or.inr rfl) (ev_split (ev_rd 0) ev_str))
    (ess_cons (es_set 2 (by decide) c.nd rfl (by first | exact Or.inl rfl | exact Or.inr rfl) (ev_dispV (l := ["not", "and", "or", "then", "either", "if"]) (evps_cons (s := "not") ev_str (evps_cons (s := "and") ev_str (evps_cons (s := "or") ev_str (evps_cons (s := "then") ev_str (evps_cons (s := "either") ev_str (evps_cons (s := "if") ev_str evps_nil))))))))
    (ess_cons (es_expr (ev_updH (eo_nm 2) (ev_lkV (ev_dispV (l := ["while", "often"]) (evps_cons (s := "while") ev_str (evps_cons (s := "often") ev_str evps_nil))))))
    (ess_cons (es_set 3 (by decide) c.nd rfl (by first | exact Or.inl rfl | exact Or.inr rfl) (ev_get c (ep_pk 2) (ev_ix ix_seq pr_ix (eas_p (ep_pk 1) (eas_p ev_int.p eas_nil))) ev_str))
    (ess_cons (es_if (ew_or (et_cmp (op_eq2 c.hr.units) pr_eq (eas_p (ep_pk 3) (eas_p ev_str.p eas_nil)) (nomark _)) (ew_or1 (et_cmp (op_ne2 c.hr.units) pr_ne (eas_p (ev_bi call_len pr_len B.m_len boot_len_ (eas_p (ep_pk 1) eas_nil)).p (eas_p (ev_op op_add4 pr_add (eas_p ev_int.p (eas_p (ev_bi call_len pr_len B.m_len boot_len_ (eas_p (ep_pk 3) eas_nil)).p eas_nil))).p eas_nil)) (nomark _)))).t (ess_one (es_ret ev_str)) ess_nil)
    (ess_cons (es_if (et_not (et_val (ev_bi (cr_all c.calm) pr_all B.m_all boot_all_ (eas_p (ev_comp c (own := [("_law_word", 4), ("_law_sort", 5)]) (ei_zipS (ees_cons (ev_frz (ev_slLo (eas_p (ep_pk 1) (eas_p ev_int.p eas_nil)))) (ees_cons (ev_fz 3) ees_nil)) (by rfl) B.m_zip) (blkOk_by (by kernel_rfl)) (fun bi => (eb_tup (c.blk _ bi).calm (ebs_cons 4 (by decide) (c.blk _ bi).nd rfl (by first | exact Or.inl rfl | exact Or.inr rfl) (ebs_cons 5 (by decide) (c.blk _ bi).nd rfl (by first | exact Or.inl rfl | exact Or.inr rfl) ebs_nil)) (cg_cons (cg_cons cg_nil)))) (fun bi => ec_yes) (fun bi => (ev_call (c.blk _ bi) C_law_is_part (by omega) (by rfl) (eu_sl 4 (eu_sl 5 eu_nil))))).1.p eas_nil)))) (ess_one (es_ret ev_str)) ess_nil)
    (ess_one (es_ret (ev_ix ix_seq pr_ix (eas_p (ev_lst (ees_cons ev_str (ees_cons ev_str ees_nil))).p (eas_p (ev_ty call_int1 pr_int B.m_int boot_int_ (eas_p (ev_cmp op_in2 pr_in (eas_p (ev_ix ix_seq pr_ix (eas_p (ep_pk 1) (eas_p ev_int.p eas_nil))).p (eas_p (ev_tup (ees_cons ev_str (ees_cons ev_str (ees_cons ev_str ees_nil)))).p eas_nil)) rfl).p eas_nil)).p eas_nil)))))))))))
theorem sc_law_told : FnScope ["_law_text", "_law_sort", "_law_deep", "_law_sign", "_law_begin", "_law_end", "_law_put"] ["_law_text", "_law_sort"] (defScope (topS 34)) := ⟨rfl, rfl, rfl, by decide +kernel, rfl, by decide +kernel, by decide +kernel⟩
theorem ok_law_told {P : Program} {w : World} {K : PySem.W.Frag} {mg : Str → Option Value} {base : Heap} (B : Nm K w mg) (C_law_is_part : Callee P w K mg base "_law_is_part" 3 2 [] G.f_law_is_part) (C_law_bracket : Callee P w K mg base "_law_bracket" 4 1 [] G.f_law_bracket) {a : Addr} {fd : FuncData} (F : Fun K "_law_told" "_law_told" (topS 34) a fd) :
    FnG P w K mg base (L2.CX P w) 5 a fd ["_law_text", "_law_sort"] (spF K mg 2 G.f_law_told) :=
  fnRule 0 F sc_law_told (by decide) fun cdv A outer s H E c =>
    (ess_cons (es_set 2 (by decide) c.nd rfl (by first | exact Or.inl rfl | exact Or.inr rfl) ev_int)
    (ess_cons (es_for c (ei_seq (ev_fz 0)) (eg_name 3 (by decide) c.nd rfl (by first | exact Or.inl rfl | exact Or.inr rfl)) (ess_cons (es_set 2 (by decide) c.nd rfl (by first | exact Or.inl rfl | exact Or.inr rfl) (ev_op op_sub pr_sub (eas_p (ev_op op_add4 pr_add (eas_p (ep_pk 2) (eas_p (ev_ty call_int1 pr_int B.m_int boot_int_ (eas_p (ev_cmp (op_eq2 c.hr.units) pr_eq (eas_p (ep_pk 3) (eas_p ev_str.p eas_nil)) (nomark _)).p eas_nil)).p eas_nil))).p (eas_p (ev_ty call_int1 pr_int B.m_int boot_int_ (eas_p (ev_cmp (op_eq2 c.hr.units) pr_eq (eas_p (ep_pk 3) (eas_p ev_str.p eas_nil)) (nomark _)).p eas_nil)).p eas_nil))))
    (ess_one (es_if (ew_or (et_cmp op_lt pr_lt (eas_p (ep_pk 2) (eas_p ev_int.p eas_nil)) (nomark _)) (ew_or (et_cmp op_gt pr_gt (eas_p (ep_pk 2) (eas_p ev_int.p eas_nil)) (nomark _)) (ew_or1 (et_cmp (op_eq2 c.hr.units) pr_eq (eas_p (ep_pk 3) (eas_p ev_str.p eas_nil)) (nomark _))))).t (ess_one (es_ret ev_bl)) ess_nil))))
    (ess_cons (es_while 1000000 c (et_cmp op_in2 pr_in (eas_p ev_str.p (eas_p (ep_pk 0) eas_nil)) rfl) (ess_cons (es_set 4 (by decide) c.nd rfl (by first | exact Or.inl rfl | exact Or.inr rfl) (ev_bi call_len pr_len B.m_len boot_len_ (eas_p (ev_rp0 (ev_rd 0) ev_str).p eas_nil)))
    (ess_cons (es_set 5 (by decide) c.nd rfl (by first | exact Or.inl rfl | exact Or.inr rfl) (ev_fd3 (ev_rd 0) ev_str (ev_rd 4)))
    (ess_cons (es_if (et_cmp op_lt pr_lt (eas_p (ep_pk 5) (eas_p ev_int.p eas_nil)) (nomark _)) (ess_one (es_ret ev_bl)) ess_nil)
    (ess_cons (es_set 6 (by decide) c.nd rfl (by first | exact Or.inl rfl | exact Or.inr rfl) (ev_call c C_law_bracket (by omega) (by rfl) (eu_val (ev_slLh (ep_pk 0) (ev_op op_add4 pr_add (eas_p (ep_pk 4) (eas_p ev_int.p eas_nil))) (ev_rd 5)) eu_nil)))
    (ess_cons (es_if (et_cmp (op_eq2 c.hr.units) pr_eq (eas_p (ep_pk 6) (eas_p ev_str.p eas_nil)) (nomark _)) (ess_one (es_ret ev_bl)) ess_nil)
    (ess_one (es_set 0 (by decide) c.nd rfl (by first | exact Or.inl rfl | exact Or.inr rfl) (ev_op op_add4 pr_add (eas_p (ev_op op_add4 pr_add (eas_p (ev_slHi (eas_p (ep_pk 0) (eas_p (ep_pk 4) eas_nil))).p (eas_p (ep_pk 6) eas_nil))).p (eas_p (ev_slLo (eas_p (ep_pk 0) (eas_p (ev_op op_add4 pr_add (eas_p (ep_pk 5) (eas_p ev_int.p eas_nil))).p eas_nil))).p eas_nil)))))))))))
    (ess_one (es_ret (ev_call c C_law_is_part (by omega) (by rfl) (eu_sl 0 (eu_sl 1 eu_nil))))))))
theorem sc_law_signs : FnScope ["_law_box_here", "_law_signs_here", "_law_some"] ["_law_box_here"] (defScope (topS 35)) := ⟨rfl, rfl, rfl, by decide +kernel, rfl, by decide +kernel, by decide +kernel⟩
theorem ok_law_signs {P : Program} {w : World} {K : PySem.W.Frag} {mg : Str → Option Value} {base : Heap} (B : Nm K w mg) (C_law_take : Callee P w K mg base "_law_take" 1 2 [] G.f_law_take) {a : Addr} {fd : FuncData} (F : Fun K "_law_signs" "_law_signs" (topS 35) a fd) :
    FnG P w K mg base (L2.CX P w) 2 a fd ["_law_box_here"] (spF K mg 1 G.f_law_signs) :=
  fnRule 1 F sc_law_signs (by decide) fun cdv A outer s H E c =>
    (ess_cons (es_set 1 (by decide) c.nd rfl (by first | exact Or.inl rfl | exact Or.inr rfl) ev_str)
    (ess_cons (es_set 1 (by decide) c.nd rfl (by first | exact Or.inl rfl | exact Or.inr rfl) (ev_op op_add4 pr_add (eas_p (ep_pk 1) (eas_p ev_str.p eas_nil))))
    (ess_cons (es_set 2 (by decide) c.nd rfl (by first | exact Or.inl rfl | exact Or.inr rfl) (ev_lst (ees_cons ev_str (ees_cons ev_str (ees_cons ev_str (ees_cons (ev_ix ix_seq pr_ix (eas_e (ev_fz 1) (eas_p (ev_call c C_law_take (by omega) (by rfl) (eu_sl 0 (eu_val ev_int eu_nil))).p eas_nil))) (ees_cons (ev_ix ix_seq pr_ix (eas_e (ev_fz 1) (eas_p (ev_call c C_law_take (by omega) (by rfl) (eu_sl 0 (eu_val ev_int eu_nil))).p eas_nil))) (ees_cons (ev_ix ix_seq pr_ix (eas_e ev_str (eas_p (ev_call c C_law_take (by omega) (by rfl) (eu_sl 0 (eu_val ev_int eu_nil))).p eas_nil))) ees_nil))))))))
    (ess_one (es_ret (ev_ix ix_seq pr_ix (eas_e (ev_fz 2) (eas_p (ev_call c C_law_take (by omega) (by rfl) (eu_sl 0 (eu_val ev_int eu_nil))).p eas_nil))))))))
theorem sc_law_spoilt : FnScope ["_law_box_here", "_law_text", "_law_at", "_law_form", "_law_sign", "_law_words", "_law_word"] ["_law_box_here", "_law_text"] (defScope (topS 36)) := ⟨rfl, rfl, rfl, by decide +kernel, rfl, by decide +kernel, by decide +kernel⟩
theorem ok_law_spoilt {P : Program} {w : World} {K : PySem.W.Frag} {mg : Str → Option Value} {base : Heap} (B : Nm K w mg) (C_law_take : Callee P w K mg base "_law_take" 1 2 [] G.f_law_take) (C_law_taken : Callee P w K mg base "_law_taken" 1 0 [] G.f_law_taken) (C_law_signs : Callee P w K mg base "_law_signs" 2 1 [] G.f_law_signs) {a : Addr} {fd : FuncData} (F : Fun K "_law_spoilt" "_law_spoilt" (topS 36) a fd) :
    FnG P w K mg base (L2.CX P w) 3 a fd ["_law_box_here", "_law_text"] (spF K mg 2 G.f_law_spoilt) :=
  fnRule 2 F sc_law_spoilt (by decide) fun cdv A outer s H E c =>
    (ess_cons (es_set 2 (by decide) c.nd rfl (by first | exact Or.inl rfl | exact Or.inr rfl) (ev_call c C_law_take (by omega) (by rfl) (eu_sl 0 (eu_val (ev_op op_add4 pr_add (eas_p (ev_bi call_len pr_len B.m_len boot_len_ (eas_p (ep_pk 1) eas_nil)).p (eas_p ev_int.p eas_nil))) eu_nil))))
    (ess_cons (es_set 3 (by decide) c.nd rfl (by first | exact Or.inl rfl | exact Or.inr rfl) (ev_call c C_law_take (by omega) (by rfl) (eu_sl 0 (eu_val ev_int eu_nil))))
    (ess_cons (es_set 4 (by decide) c.nd rfl (by first | exact Or.inl rfl | exact Or.inr rfl) (ev_call c C_law_signs (by omega) (by rfl) (eu_sl 0 eu_nil)))
    (ess_cons (es_if (et_cmp op_lt pr_lt (eas_p (ep_pk 3) (eas_p ev_int.p eas_nil)) (nomark _)) (ess_one (es_ret (ev_ix ix_seq pr_ix (eas_p (ev_lst (ees_cons (ev_op op_add4 pr_add (eas_p (ev_op op_add4 pr_add (eas_p (ev_slHi (eas_p (ep_pk 1) (eas_p (ep_pk 2) eas_nil))).p (eas_p (ep_pk 4) eas_nil))).p (eas_p (ev_slLo (eas_p (ep_pk 1) (eas_p (ep_pk 2) eas_nil))).p eas_nil))) (ees_cons (ev_op op_add4 pr_add (eas_p (ev_op op_add4 pr_add (eas_p (ev_slHi (eas_p (ep_pk 1) (eas_p (ep_pk 2) eas_nil))).p (eas_p (ep_pk 4) eas_nil))).p (eas_p (ev_slLo (eas_p (ep_pk 1) (eas_p (ev_op op_add4 pr_add (eas_p (ep_pk 2) (eas_p ev_int.p eas_nil))).p eas_nil))).p eas_nil))) (ees_cons (ev_op op_add4 pr_add (eas_p (ev_slHi (eas_p (ep_pk 1) (eas_p (ep_pk 2) eas_nil))).p (eas_p (ev_slLo (eas_p (ep_pk 1) (eas_p (ev_op op_add4 pr_add (eas_p (ep_pk 2) (eas_p ev_int.p eas_nil))).p eas_nil))).p eas_nil))) ees_nil)))).p (eas_p (ep_pk 3) eas_nil))))) ess_nil)
    (ess_cons (es_set 5 (by decide) c.nd rfl (by first | exact Or.inl rfl | exact Or.inr rfl) (ev_split (ev_rd 1) ev_str))
    (ess_cons (es_set 2 (by decide) c.nd rfl (by first | exact Or.inl rfl | exact Or.inr rfl) (ev_call c C_law_take (by omega) (by rfl) (eu_sl 0 (eu_val (ev_bi call_len pr_len B.m_len boot_len_ (eas_p (ep_pk 5) eas_nil)) eu_nil))))
    (ess_cons (es_set 6 (by decide) c.nd rfl (by first | exact Or.inl rfl | exact Or.inr rfl) (ev_ix ix_seq pr_ix (eas_e (ev_op op_add4 pr_add (eas_e (ev_call0 c C_law_taken (by omega) (by rfl)) (eas_p (ev_lst (ees_cons ev_str (ees_cons ev_str (ees_cons ev_str (ees_cons ev_str (ees_cons ev_str (ees_cons ev_str (ees_cons (ev_ix ix_seq pr_ix (eas_e (ev_fz 5) (eas_p (ev_call c C_law_take (by omega) (by rfl) (eu_sl 0 (eu_val (ev_bi call_len pr_len B.m_len boot_len_ (eas_p (ep_pk 5) eas_nil)) eu_nil))).p eas_nil))) ees_nil)))))))).p eas_nil))) (eas_p (ev_call c C_law_take (by omega) (by rfl) (eu_sl 0 (eu_val ev_int eu_nil))).p eas_nil))))
    (ess_cons (es_if (et_cmp (op_eq2 c.hr.units) pr_eq (eas_p (ep_pk 3) (eas_p ev_int.p eas_nil)) (nomark _)) (ess_one (es_ret (ev_join ev_str (ev_op op_add4 pr_add (eas_p (ev_op op_add4 pr_add (eas_p (ev_slHi (eas_p (ep_pk 5) (eas_p (ep_pk 2) eas_nil))).p (eas_p (ev_lst (ees_cons (ev_rd 6) ees_nil)).p eas_nil))).p (eas_p (ev_slLo (eas_p (ep_pk 5) (eas_p (ev_op op_add4 pr_add (eas_p (ep_pk 2) (eas_p ev_int.p eas_nil))).p eas_nil))).p eas_nil))).p))) ess_nil)
    (ess_cons (es_if (et_cmp (op_eq2 c.hr.units) pr_eq (eas_p (ep_pk 3) (eas_p ev_int.p eas_nil)) (nomark _)) (ess_one (es_ret (ev_join ev_str (ev_op op_add4 pr_add (eas_p (ev_op op_add4 pr_add (eas_p (ev_slHi (eas_p (ep_pk 5) (eas_p (ep_pk 2) eas_nil))).p (eas_p (ev_lst (ees_cons (ev_rd 6) ees_nil)).p eas_nil))).p (eas_p (ev_slLo (eas_p (ep_pk 5) (eas_p (ep_pk 2) eas_nil))).p eas_nil))).p))) ess_nil)
    (ess_one (es_ret (ev_join ev_str (ev_op op_add4 pr_add (eas_p (ev_slHi (eas_p (ep_pk 5) (eas_p (ep_pk 2) eas_nil))).p (eas_p (ev_slLo (eas_p (ep_pk 5) (eas_p (ev_op op_add4 pr_add (eas_p (ep_pk 2) (eas_p ev_int.p eas_nil))).p eas_nil))).p eas_nil))).p))))))))))))
theorem sc_law_right : FnScope ["_law_text", "_law_sort", "_law_caught", "_law_found", "e"] ["_law_text", "_law_sort"] (defScope (topS 37)) := ⟨rfl, rfl, rfl, by decide +kernel, rfl, by decide +kernel, by decide +kernel⟩
theorem ok_law_right {P : Program} {w : World} {K : PySem.W.Frag} {mg : Str → Option Value} {base : Heap} (B : Nm K w mg) (C_law_told : Callee P w K mg base "_law_told" 5 2 [] G.f_law_told) (C_law_test_said : Callee P w K mg base "_law_test_said" 12 1 [] (G.f_law_test_said 12)) (C_read_test : Callee P w K mg base "read_test" 18 1 [] G.f_read_test) (C_law_errand_said : Callee P w K mg base "_law_errand_said" 24 1 [] (G.f_law_errand_said 12)) (C_read_errand : Callee P w K mg base "read_errand" 30 1 [] G.f_read_errand) {a : Addr} {fd : FuncData} (F : Fun K "_law_right" "_law_right" (topS 37) a fd) :
    FnG P w K mg base (L2.CX P w) 31 a fd ["_law_text", "_law_sort"] (spF K mg 2 f_law_right) :=
  fnRule 2 F sc_law_right (by decide) fun cdv A outer s H E c =>
    (ess_cons (es_set 2 (by decide) c.nd rfl (by first | exact Or.inl rfl | exact Or.inr rfl) ev_non)
    (ess_cons (es_set 3 (by decide) c.nd rfl (by first | exact Or.inl rfl | exact Or.inr rfl) ev_non)
    (ess_cons (es_tryH 4 c (by decide) B.hd_WayError (fun _ _ _ cT => (ess_one (es_if (et_cmp (op_eq2 cT.hr.units) pr_eq (eas_p (ep_pk 1) (eas_p ev_str.p eas_nil)) (nomark _)) (ess_one (es_set 3 (by decide) cT.nd rfl (by first | exact Or.inl rfl | exact Or.inr rfl) (ev_call cT C_law_test_said (by omega) (by rfl) (eu_val (ev_call cT C_read_test (by omega) (by rfl) (eu_sl 0 eu_nil)) eu_nil)))) (ess_one (es_set 3 (by decide) cT.nd rfl (by first | exact Or.inl rfl | exact Or.inr rfl) (ev_call cT C_law_errand_said (by omega) (by rfl) (eu_val (ev_call cT C_read_errand (by omega) (by rfl) (eu_sl 0 eu_nil)) eu_nil))))))) (fun _ _ cU => (ess_one (es_set 2 (by decide) cU.nd rfl (by first | exact Or.inl rfl | exact Or.inr rfl) (ev_cp (ep_pk 4))))))
    (ess_cons (es_if (et_val (ev_call c C_law_told (by omega) (by rfl) (eu_sl 0 (eu_sl 1 eu_nil)))) (ess_one (es_ret (ev_and (ev_cmp op_isN pr_isN (eas_p (ep_pk 2) (eas_p ev_non.p eas_nil)) (nomark _)) (ev_one (ev_cmp (op_eq2 c.hr.units) pr_eq (eas_p (ep_pk 3) (eas_p (ep_pk 0) eas_nil)) (nomark _)))))) ess_nil)
    (ess_cons (es_if (ew_or (et_not (et_val (ev_isx1 (ep_pk 2) B.m_isinstance B.is_BadText))) (ew_or1 (et_val (ev_isxN (ep_pk 2) B.m_isinstance B.is_NoBook_NoErrand_NoRow_NoWay_NoWorld_TooMany (.cons (by rfl) (by decide) (by decide) (by rfl) (.cons (by rfl) (by decide) (by decide) (by rfl) (.cons (by rfl) (by decide) (by decide) (by rfl) (.cons (by rfl) (by decide) (by decide) (by rfl) (.cons (by rfl) (by decide) (by decide) (by rfl) (.cons (by rfl) (by decide) (by decide) (by rfl) .nil)))))))))).t (ess_one (es_ret ev_bl)) ess_nil)
    (ess_one (es_ret (ev_and (ev_cmp (op_eq2 c.hr.units) pr_eq (eas_p (ev_xfs (ep_pk 2) B.xf_at).p (eas_p ev_int.p eas_nil)) (nomark _)) (ev_and (ev_not (ev_isi (n := "bool") (nt := "bool") (ev_xfs (ep_pk 2) B.xf_at).p B.m_isinstance boot_isi_ B.m_bool boot_ty_bool)) (ev_one (ev_isx1 (ep_pk 2) B.m_isinstance B.is_ValueError)))))))))))
theorem sc_law : FnScope ["_law_script", "_law_k", "_law_box_here", "_law_words", "_law_good", "_law_text", "_law_turn", "_law_deep", "_law_texts", "_law_one", "_law_j"] ["_law_script"] (defScope (topS 38)) := ⟨rfl, rfl, rfl, by decide +kernel, rfl, by decide +kernel, by decide +kernel⟩
theorem ok_law {P : Program} {w : World} {K : PySem.W.Frag} {mg : Str → Option Value} {base : Heap} (B : Nm K w mg) (C_law_right : Callee P w K mg base "_law_right" 31 2 [] f_law_right) (C_law_take : Callee P w K mg base "_law_take" 1 2 [] G.f_law_take) (C_law_spoilt : Callee P w K mg base "_law_spoilt" 3 2 [] G.f_law_spoilt) (C_law_test_said : Callee P w K mg base "_law_test_said" 12 1 [] (G.f_law_test_said 12)) (C_law_any_test : Callee P w K mg base "_law_any_test" 10 4 [] (G.f_law_any_test 9)) (C_law_errand_said : Callee P w K mg base "_law_errand_said" 24 1 [] (G.f_law_errand_said 12)) (C_law_any_errand : Callee P w K mg base "_law_any_errand" 20 4 [] (f_law_any_errand 10)) (C_law_name : Callee P w K mg base "_law_name" 2 1 [] G.f_law_name) (C_law_box : Callee P w K mg base "_law_box" 1 2 [] G.f_law_box) {a : Addr} {fd : FuncData} (F : Fun K "law" "law" (topS 38) a fd) :
    FnG P w K mg base (L2.CX P w) 32 a fd ["_law_script"] (spF K mg 1 f_law) :=
  fnRule 1 F sc_law (by decide) fun cdv A outer s H E c =>
    (ess_cons (es_for c (ei_range1 (ees_cons (ev_bi (call_max2 c.calm) pr_max2 B.m_max boot_max_ (eas_p ev_int.p (eas_p (ev_bi (call_min2 c.calm) pr_min2 B.m_min boot_min_ (eas_p ev_int.p (eas_p (ev_bi call_len pr_len B.m_len boot_len_ (eas_p (ep_pk 0) eas_nil)).p eas_nil))).p eas_nil))) ees_nil) (by rfl) B.m_range) (eg_name 1 (by decide) c.nd rfl (by first | exact Or.inl rfl | exact Or.inr rfl)) (ess_cons (es_set 2 (by decide) c.nd rfl (by first | exact Or.inl rfl | exact Or.inr rfl) (ev_call c C_law_box (by omega) (by rfl) (eu_sl 0 (eu_sl 1 eu_nil))))
    (ess_cons (es_set 3 (by decide) c.nd rfl (by first | exact Or.inl rfl | exact Or.inr rfl) (ev_frz (ev_tup (ees_cons (ev_comp c (own := [("_law_j", 10)]) (ei_range1 (ees_cons ev_int ees_nil) (by rfl) B.m_range) (blkOk_by (by kernel_rfl)) (fun bi => (eb_name 10 (by decide) (c.blk _ bi).nd rfl (by first | exact Or.inl rfl | exact Or.inr rfl))) (fun bi => ec_yes) (fun bi => (ev_call (c.blk _ bi) C_law_name (by omega) (by rfl) (eu_sl 2 eu_nil)))).1 (ees_cons (ev_comp c (own := [("_law_j", 10)]) (ei_range1 (ees_cons ev_int ees_nil) (by rfl) B.m_range) (blkOk_by (by kernel_rfl)) (fun bi => (eb_name 10 (by decide) (c.blk _ bi).nd rfl (by first | exact Or.inl rfl | exact Or.inr rfl))) (fun bi => ec_yes) (fun bi => (ev_call (c.blk _ bi) C_law_name (by omega) (by rfl) (eu_sl 2 eu_nil)))).1 ees_nil)))))
    (ess_cons (es_set 4 (by decide) c.nd rfl (by first | exact Or.inl rfl | exact Or.inr rfl) (ev_call c C_law_errand_said (by omega) (by rfl) (eu_val (ev_call c C_law_any_errand (by omega) (by rfl) (eu_sl 2 (eu_sl 3 (eu_val (ev_lst (ees_cons (ev_call c C_law_take (by omega) (by rfl) (eu_sl 2 (eu_val ev_int eu_nil))) (ees_cons (ev_call c C_law_take (by omega) (by rfl) (eu_sl 2 (eu_val ev_int eu_nil))) ees_nil))) (eu_val ev_int eu_nil))))) eu_nil)))
    (ess_cons (es_if (et_cmp (op_eq2 c.hr.units) pr_eq (eas_p (ev_call c C_law_take (by omega) (by rfl) (eu_sl 2 (eu_val ev_int eu_nil))).p (eas_p ev_int.p eas_nil)) (nomark _)) (ess_one (es_set 4 (by decide) c.nd rfl (by first | exact Or.inl rfl | exact Or.inr rfl) (ev_call c C_law_test_said (by omega) (by rfl) (eu_val (ev_call c C_law_any_test (by omega) (by rfl) (eu_sl 2 (eu_val (ev_ix ix_seq pr_ix (eas_p (ep_pk 3) (eas_p ev_int.p eas_nil))) (eu_val ev_int (eu_val ev_int eu_nil))))) eu_nil)))) ess_nil)
    (ess_cons (es_set 5 (by decide) c.nd rfl (by first | exact Or.inl rfl | exact Or.inr rfl) (ev_fz 4))
    (ess_cons (es_for c (ei_range1 (ees_cons (ev_op op_add4 pr_add (eas_e ev_int (eas_p (ev_call c C_law_take (by omega) (by rfl) (eu_sl 2 (eu_val ev_int eu_nil))).p eas_nil))) ees_nil) (by rfl) B.m_range) (eg_name 6 (by decide) c.nd rfl (by first | exact Or.inl rfl | exact Or.inr rfl)) (ess_one (es_set 5 (by decide) c.nd rfl (by first | exact Or.inl rfl | exact Or.inr rfl) (ev_call c C_law_spoilt (by omega) (by rfl) (eu_sl 2 (eu_sl 5 eu_nil))))))
    (ess_cons (es_set 7 (by decide) c.nd rfl (by first | exact Or.inl rfl | exact Or.inr rfl) (ev_op op_add4 pr_add (eas_e ev_int (eas_p (ev_call c C_law_take (by omega) (by rfl) (eu_sl 2 (eu_val ev_int eu_nil))).p eas_nil))))
    (ess_cons (es_set 8 (by decide) c.nd rfl (by first | exact Or.inl rfl | exact Or.inr rfl) (ev_lst (ees_cons (ev_fz 4) (ees_cons (ev_fz 5) (ees_cons (ev_op op_add4 pr_add (eas_p (ev_op op_add4 pr_add (eas_p (ev_op op_tms pr_tms (eas_p ev_str.p (eas_p (ep_pk 7) eas_nil))).p (eas_p ev_str.p eas_nil))).p (eas_p (ev_op op_tms pr_tms (eas_p ev_str.p (eas_p (ep_pk 7) eas_nil))).p eas_nil))) (ees_cons (ev_op op_add4 pr_add (eas_p (ev_op op_add4 pr_add (eas_p (ev_op op_tms pr_tms (eas_p ev_str.p (eas_p (ep_pk 7) eas_nil))).p (eas_p ev_str.p eas_nil))).p (eas_p (ev_op op_tms pr_tms (eas_p ev_str.p (eas_p (ep_pk 7) eas_nil))).p eas_nil))) ees_nil))))))
    (ess_cons (es_expr (ev_app 8 (ev_op op_add4 pr_add (eas_p (ev_op op_add4 pr_add (eas_p (ev_op op_tms pr_tms (eas_p ev_str.p (eas_p (ev_op op_sub pr_sub (eas_p (ep_pk 7) (eas_p ev_int.p eas_nil))).p eas_nil))).p (eas_p ev_str.p eas_nil))).p (eas_p (ev_op op_tms pr_tms (eas_p ev_str.p (eas_p (ev_op op_sub pr_sub (eas_p (ep_pk 7) (eas_p ev_int.p eas_nil))).p eas_nil))).p eas_nil)))))
    (ess_one (es_for c (ei_seq (ev_op op_add4 pr_add (eas_p (ep_pk 8) (eas_p (ev_lst (ees_cons (ev_op op_add4 pr_add (eas_p (ep_pk 4) (eas_p ev_str.p eas_nil))) (ees_cons (ev_rd 4) ees_nil))).p eas_nil)))) (eg_name 9 (by decide) c.nd rfl (by first | exact Or.inl rfl | exact Or.inr rfl)) (ess_one (es_if (ew_or (et_not (et_val (ev_call c C_law_right (by omega) (by rfl) (eu_sl 9 (eu_val ev_str eu_nil))))) (ew_or1 (et_not (et_val (ev_call c C_law_right (by omega) (by rfl) (eu_sl 9 (eu_val ev_str eu_nil))))))).t (ess_one (es_ret ev_bl)) ess_nil))))))))))))))
    (ess_one (es_ret ev_bl)))
theorem all_ok {P : Program} {w : World} {K : PySem.W.Frag} {mg : Str → Option Value} {fa : Addr} (hfa : mg "law" = some (.ref fa)) (B : Nm K w mg) (D_BadText_init : XMakAt K mg "BadText" "BadText.__init__" "at" (inClass (topS 2) 0)) (D_is_name : DefAt K mg "is_name" (topS 13)) (D_Reading_init : MakAt K mg "Reading" "Reading.__init__" (inClass (topS 18) 0)) (D_Reading_need : MethAt K mg "Reading" "need" "Reading.need" (inClass (topS 18) 1)) (D_Reading_take : MethAt K mg "Reading" "take" "Reading.take" (inClass (topS 18) 2)) (D_Reading_take_word : MethAt K mg "Reading" "take_word" "Reading.take_word" (inClass (topS 18) 3)) (D_Reading_take_head : MethAt K mg "Reading" "take_head" "Reading.take_head" (inClass (topS 18) 4)) (D_Reading_shut : MethAt K mg "Reading" "shut" "Reading.shut" (inClass (topS 18) 5)) (D_Reading_is_open : MethAt K mg "Reading" "is_open" "Reading.is_open" (inClass (topS 18) 6)) (D_Reading_take_test : MethAt K mg "Reading" "take_test" "Reading.take_test" (inClass (topS 18) 7)) (D_Reading_take_errand : MethAt K mg "Reading" "take_errand" "Reading.take_errand" (inClass (topS 18) 8)) (D_Reading_end : MethAt K mg "Reading" "end" "Reading.end" (inClass (topS 18) 9)) (D_read_errand : DefAt K mg "read_errand" (topS 19)) (D_read_test : DefAt K mg "read_test" (topS 20)) (D_law_box : DefAt K mg "_law_box" (topS 22)) (D_law_take : DefAt K mg "_law_take" (topS 23)) (D_law_taken : DefAt K mg "_law_taken" (topS 24)) (D_law_name : DefAt K mg "_law_name" (topS 25)) (D_law_any_test : DefAt K mg "_law_any_test" (topS 26)) (D_law_leaf : DefAt K mg "_law_leaf" (topS 27)) (D_law_any_errand : DefAt K mg "_law_any_errand" (topS 28)) (D_law_test_said : DefAt K mg "_law_test_said" (topS 29)) (D_law_errand_said : DefAt K mg "_law_errand_said" (topS 30)) (D_law_is_name : DefAt K mg "_law_is_name" (topS 31)) (D_law_is_part : DefAt K mg "_law_is_part" (topS 32)) (D_law_bracket : DefAt K mg "_law_bracket" (topS 33)) (D_law_told : DefAt K mg "_law_told" (topS 34)) (D_law_signs : DefAt K mg "_law_signs" (topS 35)) (D_law_spoilt : DefAt K mg "_law_spoilt" (topS 36)) (D_law_right : DefAt K mg "_law_right" (topS 37)) (D_law : DefAt K mg "law" (topS 38)) :
    ∃ fd : FuncData, (∀ (s : Shared) (u : Value), BindsTo s fd ⟨[u], []⟩ [("_law_script", u)]) ∧ ∀ base : Heap, FnG P w K mg base (L2.CX P w) 32 fa fd ["_law_script"] (spF K mg 1 f_law) := by
  obtain ⟨cc_BadText_init, a_BadText_init, fd_BadText_init, m_BadText_init, T_BadText_init, i_BadText_init, t_BadText_init, n_BadText_init, F_BadText_init⟩ := D_BadText_init.ex
  obtain ⟨a_is_name, fd_is_name, m_is_name, F_is_name⟩ := D_is_name.ex
  obtain ⟨cc_Reading_init, a_Reading_init, fd_Reading_init, m_Reading_init, k_Reading_init, F_Reading_init⟩ := D_Reading_init.ex
  obtain ⟨cc_Reading_need, a_Reading_need, fd_Reading_need, m_Reading_need, cl_Reading_need, k_Reading_need, F_Reading_need⟩ := D_Reading_need.ex
  obtain ⟨cc_Reading_take, a_Reading_take, fd_Reading_take, m_Reading_take, cl_Reading_take, k_Reading_take, F_Reading_take⟩ := D_Reading_take.ex
  obtain ⟨cc_Reading_take_word, a_Reading_take_word, fd_Reading_take_word, m_Reading_take_word, cl_Reading_take_word, k_Reading_take_word, F_Reading_take_word⟩ := D_Reading_take_word.ex
  obtain ⟨cc_Reading_take_head, a_Reading_take_head, fd_Reading_take_head, m_Reading_take_head, cl_Reading_take_head, k_Reading_take_head, F_Reading_take_head⟩ := D_Reading_take_head.ex
  obtain ⟨cc_Reading_shut, a_Reading_shut, fd_Reading_shut, m_Reading_shut, cl_Reading_shut, k_Reading_shut, F_Reading_shut⟩ := D_Reading_shut.ex
  obtain ⟨cc_Reading_is_open, a_Reading_is_open, fd_Reading_is_open, m_Reading_is_open, cl_Reading_is_open, k_Reading_is_open, F_Reading_is_open⟩ := D_Reading_is_open.ex
  obtain ⟨cc_Reading_take_test, a_Reading_take_test, fd_Reading_take_test, m_Reading_take_test, cl_Reading_take_test, k_Reading_take_test, F_Reading_take_test⟩ := D_Reading_take_test.ex
  obtain ⟨cc_Reading_take_errand, a_Reading_take_errand, fd_Reading_take_errand, m_Reading_take_errand, cl_Reading_take_errand, k_Reading_take_errand, F_Reading_take_errand⟩ := D_Reading_take_errand.ex
  obtain ⟨cc_Reading_end, a_Reading_end, fd_Reading_end, m_Reading_end, cl_Reading_end, k_Reading_end, F_Reading_end⟩ := D_Reading_end.ex
  obtain ⟨a_read_errand, fd_read_errand, m_read_errand, F_read_errand⟩ := D_read_errand.ex
  obtain ⟨a_read_test, fd_read_test, m_read_test, F_read_test⟩ := D_read_test.ex
  obtain ⟨a_law_box, fd_law_box, m_law_box, F_law_box⟩ := D_law_box.ex
  obtain ⟨a_law_take, fd_law_take, m_law_take, F_law_take⟩ := D_law_take.ex
  obtain ⟨a_law_taken, fd_law_taken, m_law_taken, F_law_taken⟩ := D_law_taken.ex
  obtain ⟨a_law_name, fd_law_name, m_law_name, F_law_name⟩ := D_law_name.ex
  obtain ⟨a_law_any_test, fd_law_any_test, m_law_any_test, F_law_any_test⟩ := D_law_any_test.ex
  obtain ⟨a_law_leaf, fd_law_leaf, m_law_leaf, F_law_leaf⟩ := D_law_leaf.ex
  obtain ⟨a_law_any_errand, fd_law_any_errand, m_law_any_errand, F_law_any_errand⟩ := D_law_any_errand.ex
  obtain ⟨a_law_test_said, fd_law_test_said, m_law_test_said, F_law_test_said⟩ := D_law_test_said.ex
  obtain ⟨a_law_errand_said, fd_law_errand_said, m_law_errand_said, F_law_errand_said⟩ := D_law_errand_said.ex
  obtain ⟨a_law_is_name, fd_law_is_name, m_law_is_name, F_law_is_name⟩ := D_law_is_name.ex
  obtain ⟨a_law_is_part, fd_law_is_part, m_law_is_part, F_law_is_part⟩ := D_law_is_part.ex
  obtain ⟨a_law_bracket, fd_law_bracket, m_law_bracket, F_law_bracket⟩ := D_law_bracket.ex
  obtain ⟨a_law_told, fd_law_told, m_law_told, F_law_told⟩ := D_law_told.ex
  obtain ⟨a_law_signs, fd_law_signs, m_law_signs, F_law_signs⟩ := D_law_signs.ex
  obtain ⟨a_law_spoilt, fd_law_spoilt, m_law_spoilt, F_law_spoilt⟩ := D_law_spoilt.ex
  obtain ⟨a_law_right, fd_law_right, m_law_right, F_law_right⟩ := D_law_right.ex
  obtain ⟨a_law, fd_law, m_law, F_law⟩ := D_law.ex
  have b_BadText_init := F_BadText_init.binds (ps := ["self", "at"]) fun _ _ _ _ _ _ us hl => match us, hl with | [_, _], _ => rfl
  have C_BadText_init : ∀ base : Heap, XMak P w K mg base "BadText" "at" := fun base => ⟨cc_BadText_init, a_BadText_init, fd_BadText_init, ["self", "at"], m_BadText_init, T_BadText_init, i_BadText_init, t_BadText_init, n_BadText_init, ok_BadText_init B F_BadText_init, b_BadText_init⟩
  have b_is_name := F_is_name.binds (ps := ["text"]) fun _ _ _ _ _ _ us hl => match us, hl with | [_], _ => rfl
  have C_is_name : ∀ base : Heap, Callee P w K mg base "is_name" 1 1 [] G.f_is_name := fun base => ⟨a_is_name, fd_is_name, _, [], [], ok_is_name B F_is_name, m_is_name, F_is_name.kp, b_is_name, .nil, (fun _ => .nil)⟩
  have b_Reading_init := F_Reading_init.binds (ps := ["self", "text", "at"]) fun _ _ _ _ _ _ us hl => match us, hl with | [_, _, _], _ => rfl
  have C_Reading_init : ∀ base : Heap, Maker P w K mg base "Reading" 1 3 [] G.f_Reading_init := fun base => ⟨cc_Reading_init, a_Reading_init, fd_Reading_init, _, [], [], ok_Reading_init B F_Reading_init, m_Reading_init, k_Reading_init, b_Reading_init, .nil, (fun _ => .nil)⟩
  have b_Reading_need := F_Reading_need.binds (ps := ["self", "truth"]) fun _ _ _ _ _ _ us hl => match us, hl with | [_, _], _ => rfl
  have C_Reading_need : ∀ base : Heap, Methd P w K mg base "Reading" "need" 3 2 [] G.f_Reading_need := fun base => ⟨cc_Reading_need, a_Reading_need, fd_Reading_need, _, [], [], ok_Reading_need B (C_BadText_init base) F_Reading_need, m_Reading_need, cl_Reading_need, k_Reading_need, b_Reading_need, .nil, (fun _ => .nil)⟩
  have b_Reading_take := F_Reading_take.binds (ps := ["self", "sign"]) fun _ _ _ _ _ _ us hl => match us, hl with | [_, _], _ => rfl
  have C_Reading_take : ∀ base : Heap, Methd P w K mg base "Reading" "take" 4 2 [] G.f_Reading_take := fun base => ⟨cc_Reading_take, a_Reading_take, fd_Reading_take, _, [], [], ok_Reading_take B (C_Reading_need base) F_Reading_take, m_Reading_take, cl_Reading_take, k_Reading_take, b_Reading_take, .nil, (fun _ => .nil)⟩
  have b_Reading_take_word := F_Reading_take_word.binds (ps := ["self"]) fun _ _ _ _ _ _ us hl => match us, hl with | [_], _ => rfl
  have C_Reading_take_word : ∀ base : Heap, Methd P w K mg base "Reading" "take_word" 1 1 [] G.f_Reading_take_word := fun base => ⟨cc_Reading_take_word, a_Reading_take_word, fd_Reading_take_word, _, [], [], ok_Reading_take_word B F_Reading_take_word, m_Reading_take_word, cl_Reading_take_word, k_Reading_take_word, b_Reading_take_word, .nil, (fun _ => .nil)⟩
  have b_Reading_take_head := F_Reading_take_head.binds (ps := ["self", "known"]) fun _ _ _ _ _ _ us hl => match us, hl with | [_, _], _ => rfl
  have C_Reading_take_head : ∀ base : Heap, Methd P w K mg base "Reading" "take_head" 5 2 [] G.f_Reading_take_head := fun base => ⟨cc_Reading_take_head, a_Reading_take_head, fd_Reading_take_head, _, [], [], ok_Reading_take_head B (C_Reading_need base) (C_Reading_take_word base) (C_Reading_take base) F_Reading_take_head, m_Reading_take_head, cl_Reading_take_head, k_Reading_take_head, b_Reading_take_head, .nil, (fun _ => .nil)⟩
  have b_Reading_shut := F_Reading_shut.binds (ps := ["self"]) fun _ _ _ _ _ _ us hl => match us, hl with | [_], _ => rfl
  have C_Reading_shut : ∀ base : Heap, Methd P w K mg base "Reading" "shut" 5 1 [] G.f_Reading_shut := fun base => ⟨cc_Reading_shut, a_Reading_shut, fd_Reading_shut, _, [], [], ok_Reading_shut B (C_Reading_take base) F_Reading_shut, m_Reading_shut, cl_Reading_shut, k_Reading_shut, b_Reading_shut, .nil, (fun _ => .nil)⟩
  have b_Reading_is_open := F_Reading_is_open.binds (ps := ["self"]) fun _ _ _ _ _ _ us hl => match us, hl with | [_], _ => rfl
  have C_Reading_is_open : ∀ base : Heap, Methd P w K mg base "Reading" "is_open" 1 1 [] G.f_Reading_is_open := fun base => ⟨cc_Reading_is_open, a_Reading_is_open, fd_Reading_is_open, _, [], [], ok_Reading_is_open B F_Reading_is_open, m_Reading_is_open, cl_Reading_is_open, k_Reading_is_open, b_Reading_is_open, .nil, (fun _ => .nil)⟩
  have b_Reading_take_test := F_Reading_take_test.binds (ps := ["self"]) fun _ _ _ _ _ _ us hl => match us, hl with | [_], _ => rfl
  have C_Reading_take_test : ∀ base : Heap, Methd P w K mg base "Reading" "take_test" 17 1 [] (G.f_Reading_take_test 12) := fun base => ⟨cc_Reading_take_test, a_Reading_take_test, fd_Reading_take_test, _, [], [], ok_Reading_take_test B (C_Reading_shut base) (C_Reading_take base) (C_Reading_take_head base) (C_Reading_is_open base) (C_Reading_need base) (C_is_name base) (C_Reading_take_word base) F_Reading_take_test m_Reading_take_test cl_Reading_take_test k_Reading_take_test b_Reading_take_test 12, m_Reading_take_test, cl_Reading_take_test, k_Reading_take_test, b_Reading_take_test, .nil, (fun _ => .nil)⟩
  have b_Reading_take_errand := F_Reading_take_errand.binds (ps := ["self"]) fun _ _ _ _ _ _ us hl => match us, hl with | [_], _ => rfl
  have C_Reading_take_errand : ∀ base : Heap, Methd P w K mg base "Reading" "take_errand" 29 1 [] (G.f_Reading_take_errand 12) := fun base => ⟨cc_Reading_take_errand, a_Reading_take_errand, fd_Reading_take_errand, _, [], [], ok_Reading_take_errand B (C_Reading_shut base) (C_Reading_take base) (C_Reading_take_test base) (C_Reading_take_head base) (C_Reading_is_open base) (C_Reading_need base) (C_is_name base) (C_Reading_take_word base) F_Reading_take_errand m_Reading_take_errand cl_Reading_take_errand k_Reading_take_errand b_Reading_take_errand 12, m_Reading_take_errand, cl_Reading_take_errand, k_Reading_take_errand, b_Reading_take_errand, .nil, (fun _ => .nil)⟩
  have b_Reading_end := F_Reading_end.binds (ps := ["self"]) fun _ _ _ _ _ _ us hl => match us, hl with | [_], _ => rfl
  have C_Reading_end : ∀ base : Heap, Methd P w K mg base "Reading" "end" 4 1 [] G.f_Reading_end := fun base => ⟨cc_Reading_end, a_Reading_end, fd_Reading_end, _, [], [], ok_Reading_end B (C_Reading_need base) F_Reading_end, m_Reading_end, cl_Reading_end, k_Reading_end, b_Reading_end, .nil, (fun _ => .nil)⟩
  have b_read_errand := F_read_errand.binds (ps := ["text"]) fun _ _ _ _ _ _ us hl => match us, hl with | [_], _ => rfl
  have C_read_errand : ∀ base : Heap, Callee P w K mg base "read_errand" 30 1 [] G.f_read_errand := fun base => ⟨a_read_errand, fd_read_errand, _, [], [], ok_read_errand B (C_Reading_end base) (C_Reading_take_errand base) (C_Reading_init base) F_read_errand, m_read_errand, F_read_errand.kp, b_read_errand, .nil, (fun _ => .nil)⟩
  have b_read_test := F_read_test.binds (ps := ["text"]) fun _ _ _ _ _ _ us hl => match us, hl with | [_], _ => rfl
  have C_read_test : ∀ base : Heap, Callee P w K mg base "read_test" 18 1 [] G.f_read_test := fun base => ⟨a_read_test, fd_read_test, _, [], [], ok_read_test B (C_Reading_end base) (C_Reading_take_test base) (C_Reading_init base) F_read_test, m_read_test, F_read_test.kp, b_read_test, .nil, (fun _ => .nil)⟩
  have b_law_box := F_law_box.binds (ps := ["_law_script", "_law_k"]) fun _ _ _ _ _ _ us hl => match us, hl with | [_, _], _ => rfl
  have C_law_box : ∀ base : Heap, Callee P w K mg base "_law_box" 1 2 [] G.f_law_box := fun base => ⟨a_law_box, fd_law_box, _, [], [], ok_law_box B F_law_box, m_law_box, F_law_box.kp, b_law_box, .nil, (fun _ => .nil)⟩
  have b_law_take := F_law_take.binds (ps := ["_law_box_here", "_law_many"]) fun _ _ _ _ _ _ us hl => match us, hl with | [_, _], _ => rfl
  have C_law_take : ∀ base : Heap, Callee P w K mg base "_law_take" 1 2 [] G.f_law_take := fun base => ⟨a_law_take, fd_law_take, _, [], [], ok_law_take B F_law_take, m_law_take, F_law_take.kp, b_law_take, .nil, (fun _ => .nil)⟩
  have b_law_taken := F_law_taken.binds (ps := []) fun _ _ _ _ _ _ us hl => match us, hl with | [], _ => rfl
  have C_law_taken : ∀ base : Heap, Callee P w K mg base "_law_taken" 1 0 [] G.f_law_taken := fun base => ⟨a_law_taken, fd_law_taken, _, [], [], ok_law_taken B F_law_taken, m_law_taken, F_law_taken.kp, b_law_taken, .nil, (fun _ => .nil)⟩
  have b_law_name := F_law_name.binds (ps := ["_law_box_here"]) fun _ _ _ _ _ _ us hl => match us, hl with | [_], _ => rfl
  have C_law_name : ∀ base : Heap, Callee P w K mg base "_law_name" 2 1 [] G.f_law_name := fun base => ⟨a_law_name, fd_law_name, _, [], [], ok_law_name B (C_law_taken base) (C_law_take base) F_law_name, m_law_name, F_law_name.kp, b_law_name, .nil, (fun _ => .nil)⟩
  have b_law_any_test := F_law_any_test.binds (ps := ["_law_box_here", "_law_asks", "_law_room", "_law_deep"]) fun _ _ _ _ _ _ us hl => match us, hl with | [_, _, _, _], _ => rfl
  have C_law_any_test : ∀ base : Heap, Callee P w K mg base "_law_any_test" 10 4 [] (G.f_law_any_test 9) := fun base => ⟨a_law_any_test, fd_law_any_test, _, [], [], ok_law_any_test B (C_law_take base) F_law_any_test m_law_any_test F_law_any_test.kp b_law_any_test 9, m_law_any_test, F_law_any_test.kp, b_law_any_test, .nil, (fun _ => .nil)⟩
  have b_law_leaf := F_law_leaf.binds (ps := ["_law_box_here", "_law_deeds", "_law_left"]) fun _ _ _ _ _ _ us hl => match us, hl with | [_, _, _], _ => rfl
  have C_law_leaf : ∀ base : Heap, Callee P w K mg base "_law_leaf" 2 3 [] G.f_law_leaf := fun base => ⟨a_law_leaf, fd_law_leaf, _, [], [], ok_law_leaf B (C_law_take base) F_law_leaf, m_law_leaf, F_law_leaf.kp, b_law_leaf, .nil, (fun _ => .nil)⟩
  have b_law_any_errand := F_law_any_errand.binds (ps := ["_law_box_here", "_law_words", "_law_left", "_law_deep"]) fun _ _ _ _ _ _ us hl => match us, hl with | [_, _, _, _], _ => rfl
  have C_law_any_errand : ∀ base : Heap, Callee P w K mg base "_law_any_errand" 20 4 [] (f_law_any_errand 10) := fun base => ⟨a_law_any_errand, fd_law_any_errand, _, [], [], ok_law_any_errand B (C_law_any_test base) (C_law_take base) (C_law_leaf base) F_law_any_errand m_law_any_errand F_law_any_errand.kp b_law_any_errand 10, m_law_any_errand, F_law_any_errand.kp, b_law_any_errand, .nil, (fun _ => .nil)⟩
  have b_law_test_said := F_law_test_said.binds (ps := ["_law_test"]) fun _ _ _ _ _ _ us hl => match us, hl with | [_], _ => rfl
  have C_law_test_said : ∀ base : Heap, Callee P w K mg base "_law_test_said" 12 1 [] (G.f_law_test_said 12) := fun base => ⟨a_law_test_said, fd_law_test_said, _, [], [], ok_law_test_said B F_law_test_said m_law_test_said F_law_test_said.kp b_law_test_said 12, m_law_test_said, F_law_test_said.kp, b_law_test_said, .nil, (fun _ => .nil)⟩
  have b_law_errand_said := F_law_errand_said.binds (ps := ["_law_errand"]) fun _ _ _ _ _ _ us hl => match us, hl with | [_], _ => rfl
  have C_law_errand_said : ∀ base : Heap, Callee P w K mg base "_law_errand_said" 24 1 [] (G.f_law_errand_said 12) := fun base => ⟨a_law_errand_said, fd_law_errand_said, _, [], [], ok_law_errand_said B (C_law_test_said base) F_law_errand_said m_law_errand_said F_law_errand_said.kp b_law_errand_said 12, m_law_errand_said, F_law_errand_said.kp, b_law_errand_said, .nil, (fun _ => .nil)⟩
  have b_law_is_name := F_law_is_name.binds (ps := ["_law_word"]) fun _ _ _ _ _ _ us hl => match us, hl with | [_], _ => rfl
  have C_law_is_name : ∀ base : Heap, Callee P w K mg base "_law_is_name" 2 1 [] G.f_law_is_name := fun base => ⟨a_law_is_name, fd_law_is_name, _, [], [], ok_law_is_name B (C_law_taken base) F_law_is_name, m_law_is_name, F_law_is_name.kp, b_law_is_name, .nil, (fun _ => .nil)⟩
  have b_law_is_part := F_law_is_part.binds (ps := ["_law_word", "_law_sort"]) fun _ _ _ _ _ _ us hl => match us, hl with | [_, _], _ => rfl
  have C_law_is_part : ∀ base : Heap, Callee P w K mg base "_law_is_part" 3 2 [] G.f_law_is_part := fun base => ⟨a_law_is_part, fd_law_is_part, _, [], [], ok_law_is_part B (C_law_is_name base) F_law_is_part, m_law_is_part, F_law_is_part.kp, b_law_is_part, .nil, (fun _ => .nil)⟩
  have b_law_bracket := F_law_bracket.binds (ps := ["_law_inside"]) fun _ _ _ _ _ _ us hl => match us, hl with | [_], _ => rfl
  have C_law_bracket : ∀ base : Heap, Callee P w K mg base "_law_bracket" 4 1 [] G.f_law_bracket := fun base => ⟨a_law_bracket, fd_law_bracket, _, [], [], ok_law_bracket B (C_law_is_part base) F_law_bracket, m_law_bracket, F_law_bracket.kp, b_law_bracket, .nil, (fun _ => .nil)⟩
  have b_law_told := F_law_told.binds (ps := ["_law_text", "_law_sort"]) fun _ _ _ _ _ _ us hl => match us, hl with | [_, _], _ => rfl
  have C_law_told : ∀ base : Heap, Callee P w K mg base "_law_told" 5 2 [] G.f_law_told := fun base => ⟨a_law_told, fd_law_told, _, [], [], ok_law_told B (C_law_is_part base) (C_law_bracket base) F_law_told, m_law_told, F_law_told.kp, b_law_told, .nil, (fun _ => .nil)⟩
  have b_law_signs := F_law_signs.binds (ps := ["_law_box_here"]) fun _ _ _ _ _ _ us hl => match us, hl with | [_], _ => rfl
  have C_law_signs : ∀ base : Heap, Callee P w K mg base "_law_signs" 2 1 [] G.f_law_signs := fun base => ⟨a_law_signs, fd_law_signs, _, [], [], ok_law_signs B (C_law_take base) F_law_signs, m_law_signs, F_law_signs.kp, b_law_signs, .nil, (fun _ => .nil)⟩
  have b_law_spoilt := F_law_spoilt.binds (ps := ["_law_box_here", "_law_text"]) fun _ _ _ _ _ _ us hl => match us, hl with | [_, _], _ => rfl
  have C_law_spoilt : ∀ base : Heap, Callee P w K mg base "_law_spoilt" 3 2 [] G.f_law_spoilt := fun base => ⟨a_law_spoilt, fd_law_spoilt, _, [], [], ok_law_spoilt B (C_law_take base) (C_law_taken base) (C_law_signs base) F_law_spoilt, m_law_spoilt, F_law_spoilt.kp, b_law_spoilt, .nil, (fun _ => .nil)⟩
  have b_law_right := F_law_right.binds (ps := ["_law_text", "_law_sort"]) fun _ _ _ _ _ _ us hl => match us, hl with | [_, _], _ => rfl
  have C_law_right : ∀ base : Heap, Callee P w K mg base "_law_right" 31 2 [] f_law_right := fun base => ⟨a_law_right, fd_law_right, _, [], [], ok_law_right B (C_law_told base) (C_law_test_said base) (C_read_test base) (C_law_errand_said base) (C_read_errand base) F_law_right, m_law_right, F_law_right.kp, b_law_right, .nil, (fun _ => .nil)⟩
  have ea := hfa.symm.trans m_law
  cases ea
  have hF : ∀ base : Heap, FnG P w K mg base (L2.CX P w) 32 fa fd_law ["_law_script"] (spF K mg 1 f_law) := fun base => ok_law B (C_law_right base) (C_law_take base) (C_law_spoilt base) (C_law_test_said base) (C_law_any_test base) (C_law_errand_said base) (C_law_any_errand base) (C_law_name base) (C_law_box base) F_law
  refine ⟨fd_law, ?_, hF⟩
  obtain ⟨oc, od, kV, doc, pm, an, cdv, ct, osl, rfl, lk, hcd⟩ := F_law.ex
  exact fun s v => .of_eq rfl
end Lawk14
namespace G
open PySem PySem.Spec L2 Z
def wd (l : List Nat) : List Nat := l.takeWhile fun c => !decide (stp c)
def rs (l : List Nat) : List Nat := l.dropWhile fun c => !decide (stp c)
def ws (l : List Nat) : Str := ⟨(wd l).toArray⟩
def at_ (c : Nat) : List Nat → Option (List Nat)
  | x :: r => if x = c then some r else none
  | [] => none
theorem at_eq {c : Nat} {l r : List Nat} (h : at_ c l = some r) : l = c :: r := by
  cases l with
  | nil => cases h
  | cons x q =>
    have h : (if x = c then some q else none) = some r := h
    by_cases e : x = c
    · rw [if_pos e] at h
      cases h
      rw [e]
    · rw [if_neg e] at h
      cases h
theorem wd_rs (l : List Nat) : wd l ++ rs l = l := List.takeWhile_append_dropWhile
theorem wd_stp : ∀ (l : List Nat), ∀ c ∈ wd l, ¬ stp c
  | [], c, m => by cases m
  | x :: r, c, m => by
    unfold wd at m
    rw [List.takeWhile_cons] at m
    split at m
    · rename_i h
      rcases List.mem_cons.mp m with e | m
      · rw [e]; simpa using h
      · exact wd_stp r c m
    · cases m
theorem rs_stop (l : List Nat) : Stop (rs l) := by
  unfold rs
  induction l with
  | nil => exact .inl rfl
  | cons c r ih =>
    rw [List.dropWhile_cons]
    split
    · exact ih
    · rename_i h
      exact .inr ⟨c, r, rfl, by simpa using h⟩
def pTl (l : List Nat) : Option (Tst × List Nat) := if ws l = "yes" then some (.yes, rs l) else if ws l = "no" then some (.no, rs l) else if nmB (ws l) = true then some (.ask (ws l), rs l) else none
def pEl (l : List Nat) : Option (Err × List Nat) := if ws l = "done" then some (.done, rs l) else if nmB (ws l) = true then some (.doo (ws l), rs l) else none
def pT : Nat → List Nat → Option (Tst × List Nat)
  | 0, l => if l.head? = some 40 then none else pTl l
  | e + 1, l => if l.head? = some 40 then
      if ws l.tail = "not" then (at_ 32 (rs l.tail)).bind fun l1 => (pT e l1).bind fun p1 => (at_ 41 p1.2).bind fun z => some (.not p1.1, z)
      else if ws l.tail = "and" then (at_ 32 (rs l.tail)).bind fun l1 => (pT e l1).bind fun p1 => (at_ 32 (p1.2)).bind fun l2 => (pT e l2).bind fun p2 => (at_ 41 p2.2).bind fun z => some (.and p1.1 p2.1, z)
      else if ws l.tail = "or" then (at_ 32 (rs l.tail)).bind fun l1 => (pT e l1).bind fun p1 => (at_ 32 (p1.2)).bind fun l2 => (pT e l2).bind fun p2 => (at_ 41 p2.2).bind fun z => some (.or p1.1 p2.1, z)
      else none
    else pTl l
def pE : Nat → List Nat → Option (Err × List Nat)
  | 0, l => if l.head? = some 40 then none else pEl l
  | e + 1, l => if l.head? = some 40 then
      if ws l.tail = "then" then (at_ 32 (rs l.tail)).bind fun l1 => (pE e l1).bind fun p1 => (at_ 32 (p1.2)).bind fun l2 => (pE e l2).bind fun p2 => (at_ 41 p2.2).bind fun z => some (.thn p1.1 p2.1, z)
      else if ws l.tail = "if" then (at_ 32 (rs l.tail)).bind fun l1 => (pT e l1).bind fun p1 => (at_ 32 (p1.2)).bind fun l2 => (pE e l2).bind fun p2 => (at_ 32 (p2.2)).bind fun l3 => (pE e l3).bind fun p3 => (at_ 41 p3.2).bind fun z => some (.iff p1.1 p2.1 p3.1, z)
      else if ws l.tail = "while" then (at_ 32 (rs l.tail)).bind fun l1 => (pT e l1).bind fun p1 => (at_ 32 (p1.2)).bind fun l2 => (pE e l2).bind fun p2 => (at_ 41 p2.2).bind fun z => some (.whl p1.1 p2.1, z)
      else if ws l.tail = "either" then (at_ 32 (rs l.tail)).bind fun l1 => (pE e l1).bind fun p1 => (at_ 32 (p1.2)).bind fun l2 => (pE e l2).bind fun p2 => (at_ 41 p2.2).bind fun z => some (.eth p1.1 p2.1, z)
      else if ws l.tail = "often" then (at_ 32 (rs l.tail)).bind fun l1 => (pE e l1).bind fun p1 => (at_ 41 p1.2).bind fun z => some (.often p1.1, z)
      else none
    else pEl l
theorem pT_open (e : Nat) (q : List Nat) : pT (e + 1) (40 :: q) = if ws q = "not" then (at_ 32 (rs q)).bind fun l1 => (pT e l1).bind fun p1 => (at_ 41 p1.2).bind fun z => some (.not p1.1, z)
      else if ws q = "and" then (at_ 32 (rs q)).bind fun l1 => (pT e l1).bind fun p1 => (at_ 32 (p1.2)).bind fun l2 => (pT e l2).bind fun p2 => (at_ 41 p2.2).bind fun z => some (.and p1.1 p2.1, z)
      else if ws q = "or" then (at_ 32 (rs q)).bind fun l1 => (pT e l1).bind fun p1 => (at_ 32 (p1.2)).bind fun l2 => (pT e l2).bind fun p2 => (at_ 41 p2.2).bind fun z => some (.or p1.1 p2.1, z)
      else none := by
  rw [pT, if_pos (show (40 :: q).head? = some 40 from rfl)]
  rfl
theorem pE_open (e : Nat) (q : List Nat) : pE (e + 1) (40 :: q) = if ws q = "then" then (at_ 32 (rs q)).bind fun l1 => (pE e l1).bind fun p1 => (at_ 32 (p1.2)).bind fun l2 => (pE e l2).bind fun p2 => (at_ 41 p2.2).bind fun z => some (.thn p1.1 p2.1, z)
      else if ws q = "if" then (at_ 32 (rs q)).bind fun l1 => (pT e l1).bind fun p1 => (at_ 32 (p1.2)).bind fun l2 => (pE e l2).bind fun p2 => (at_ 32 (p2.2)).bind fun l3 => (pE e l3).bind fun p3 => (at_ 41 p3.2).bind fun z => some (.iff p1.1 p2.1 p3.1, z)
      else if ws q = "while" then (at_ 32 (rs q)).bind fun l1 => (pT e l1).bind fun p1 => (at_ 32 (p1.2)).bind fun l2 => (pE e l2).bind fun p2 => (at_ 41 p2.2).bind fun z => some (.whl p1.1 p2.1, z)
      else if ws q = "either" then (at_ 32 (rs q)).bind fun l1 => (pE e l1).bind fun p1 => (at_ 32 (p1.2)).bind fun l2 => (pE e l2).bind fun p2 => (at_ 41 p2.2).bind fun z => some (.eth p1.1 p2.1, z)
      else if ws q = "often" then (at_ 32 (rs q)).bind fun l1 => (pE e l1).bind fun p1 => (at_ 41 p1.2).bind fun z => some (.often p1.1, z)
      else none := by
  rw [pE, if_pos (show (40 :: q).head? = some 40 from rfl)]
  rfl
def xB (r : Int) : Exn := ⟨"BadText", [("at", .int r)]⟩
section
variable {T : Str} {r : Int} {P d : Nat} {l : List Nat} {A : O → List O → Prop} {B : Exn → Prop}
theorem len_L (T : Str) : T.cps.toList.length = T.length := by simp [Str.length]
theorem fw_needA {p dd : Nat} {b : Bool} (k : b = true → A (.d .none) [rdI T r p dd, .d (.bool true)]) (kx : b = false → B (xB r)) : FW (f_Reading_need [rdI T r p dd, .d (.bool b)]) A B := by
  cases b with
  | true => exact fw_rneed (k rfl)
  | false =>
    refine fwRun ?_
    unfold g_Reading_need
    bv_omega
    exact kx rfl
theorem fw_takeA {c : Nat} {dd : Nat} (hT : T.length ≤ 100000) (h : T.cps.toList.drop P = l) (hP : P ≤ T.length) (k : ∀ q, at_ c l = some q → T.cps.toList.drop (P + 1) = q → P + 1 ≤ T.length → A (.d .none) [rdI T r ((P + 1 : Nat) : Int) dd, .d (.str ⟨#[c]⟩)])
    (kx : at_ c l = none → B (xB r)) : FW (f_Reading_take [rdI T r P dd, .d (.str ⟨#[c]⟩)]) A B := by
  refine fwRun ?_
  unfold g_Reading_take
  bv_omega
  have key : decide (cutS T (some (P : Int)) (some ((P : Int) + 1)) = (⟨#[c]⟩ : Str)) = (at_ c l).isSome := by
    cases l with
    | nil =>
      rw [cut0 h hP]
      rfl
    | cons x q =>
      rw [cut1R h, Bool.eq_iff_iff, decide_eq_true_iff]
      unfold at_
      by_cases e : x = c
      · simp [e]
      · simp [e]
  rw [key]
  refine fw_needA (fun e => ?_) (fun e => ?_)
  · obtain ⟨q, hq⟩ := Option.isSome_iff_exists.mp e
    have h2 := at_eq hq
    rw [h2] at h
    rw [hq]
    bv_omega
    refine k q hq (drop_add (a := [c]) h) ?_
    have := congrArg List.length h
    rw [List.length_drop, List.length_cons, len_L] at this
    omega
  · exact kx (by cases h : at_ c l with
      | none => rfl
      | some q => rw [h] at e; cases e)
theorem fw_wordA {dd : Nat} (hT : T.length ≤ 100000) (h : T.cps.toList.drop P = l) (hP : P ≤ T.length) (k : ∀ P', T.cps.toList.drop P' = rs l → P' ≤ T.length → A (.d (.str (ws l))) [rdI T r (P' : Nat) dd]) : FW (f_Reading_take_word [rdI T r P dd]) A B := by
  have h2 : T.cps.toList.drop P = wd l ++ rs l := by rw [wd_rs]; exact h
  refine fw_takeWord hT h2 hP (wd_stp l) (rs_stop l) (k _ (drop_add h2) ?_)
  have := congrArg List.length h2
  rw [List.length_drop, List.length_append, len_L] at this
  omega
theorem fw_headA {q : List Nat} {ks : List Str} (hT : T.length ≤ 100000) (h : T.cps.toList.drop P = 40 :: q) (hP : P ≤ T.length) (hks : ks.length ≤ 10)
    (k : ∀ P', d + 1 ≤ 8 → ws q ∈ ks → T.cps.toList.drop P' = rs q → P' ≤ T.length → A (.d (.str (ws q))) [rdI T r (P' : Nat) ((d + 1 : Nat) : Int), .lst ((ks.map PyData.str).map O.d)]) (kx : (8 < d + 1 ∨ ws q ∉ ks) → B (xB r)) :
    FW (f_Reading_take_head [rdI T r P d, .lst ((ks.map PyData.str).map O.d)]) A B := by
  refine fwRun ?_
  unfold g_Reading_take_head
  bv_omega
  rw [show ("(" : Str) = ⟨#[40]⟩ from rfl]
  refine fw_takeA hT h hP (fun q1 e1 h1 hP1 => ?_) (fun e => by simp [at_] at e)
  obtain rfl : q = q1 := by simpa [at_] using e1
  bv_omega
  rw [show ((d : Int) + 1) = ((d + 1 : Nat) : Int) from rfl]
  refine fw_needA (fun e => ?_) (fun e => kx (.inl (by have := of_decide_eq_false e; omega)))
  have hd := of_decide_eq_true e
  bv_omega
  refine fw_wordA hT h1 hP1 fun P' h2 hP2 => ?_
  bv_omega
  refine fw_needA (fun e => ?_) (fun e => kx (.inr (of_decide_eq_false e)))
  bv_omega
  exact k P' (by omega) (of_decide_eq_true e) h2 hP2
theorem fw_shutA (hT : T.length ≤ 100000) (h : T.cps.toList.drop P = l) (hP : P ≤ T.length) (k : ∀ q, at_ 41 l = some q → T.cps.toList.drop (P + 1) = q → P + 1 ≤ T.length → A (.d .none) [rdI T r ((P + 1 : Nat) : Int) (d : Nat)])
    (kx : at_ 41 l = none → B (xB r)) : FW (f_Reading_shut [rdI T r P ((d + 1 : Nat) : Int)]) A B := by
  refine fwRun ?_
  unfold g_Reading_shut
  bv_omega
  rw [show (")" : Str) = ⟨#[41]⟩ from rfl]
  refine fw_takeA hT h hP (fun q e h1 h2 => ?_) kx
  bv_omega
  rw [show ((d + 1 : Nat) : Int) + -1 = (d : Int) by omega]
  exact k q e h1 h2
theorem fw_endA (hT : T.length ≤ 100000) (h : T.cps.toList.drop P = l) (hP : P ≤ T.length) (k : l = [] → A (.d .none) [rdI T r P d]) (kx : l ≠ [] → B (xB r)) : FW (f_Reading_end [rdI T r P d]) A B := by
  have hl : l.length = T.length - P := by rw [← h, List.length_drop, len_L]
  refine fwRun ?_
  unfold g_Reading_end
  bv_omega
  refine fw_needA (fun e => ?_) (fun e => kx fun e2 => ?_)
  · have := of_decide_eq_true e
    bv_omega
    exact k (List.length_eq_zero_iff.mp (by omega))
  · have := of_decide_eq_false e
    rw [e2] at hl
    simp at hl
    omega
end
theorem fw_tkT {T : Str} {r : Int} : ∀ {e n d P : Nat} {l : List Nat} {A : O → List O → Prop} {B : Exn → Prop}, e + 1 ≤ n → d + e = 8 → T.length ≤ 100000 → T.cps.toList.drop P = l → P ≤ T.length →
    (∀ t q P', pT e l = some (t, q) → T.cps.toList.drop P' = q → P' ≤ T.length → A (.d (Tst.d t)) [rdI T r (P' : Nat) d]) → (pT e l = none → B (xB r)) → FW (f_Reading_take_test n [rdI T r P d]) A B
  | _, 0, _, _, _, _, _, h, _, _, _, _, _, _ => by omega
  | e, n + 1, d, P, l, A, B, hn, hd, hT, h, hP, k, kx => by
    unfold f_Reading_take_test
    with_reducible refine Stp.go ?_
    by_cases ho : l.head? = some 40
    · obtain ⟨q, rfl⟩ : ∃ q, l = 40 :: q := by
        cases l with
        | nil => cases ho
        | cons c q =>
          have : c = 40 := by simpa using ho
          exact ⟨q, by rw [this]⟩
      bv_omega
      refine fw_isOpen (b := true) hT hP (by rw [h]; simp) ?_
      bv_omega
      rw [show (O.lst [O.d (PyData.str "not"), O.d (PyData.str "and"), O.d (PyData.str "or")]) = .lst (((["not", "and", "or"] : List Str).map PyData.str).map O.d) from rfl]
      refine fw_headA hT h hP (by decide) (fun P' hd1 hm h2 hP2 => ?_) (fun hm => kx ?_)
      · obtain ⟨e, rfl⟩ : ∃ e0, e = e0 + 1 := ⟨e - 1, by omega⟩
        have ih := @fw_tkT T r e n
        simp only [List.mem_cons, List.not_mem_nil, or_false] at hm
        rcases hm with hw | hw | hw
        · have E : pT (e + 1) (40 :: q) = (at_ 32 (rs q)).bind fun l1 => (pT e l1).bind fun p1 => (at_ 41 p1.2).bind fun z => some (.not p1.1, z) := by
            rw [pT_open, if_pos hw]
          rw [hw]
          bv_omega
          refine ⟨1, by with_unfolding_all rfl, ?_⟩
          bv_omega
          rw [show intsF 0 (Int.toNat 1) = [PyData.int 0] from rfl]
          bv_omega
          try rw [show (" " : Str) = ⟨#[32]⟩ from rfl]
          refine fw_takeA hT h2 hP2 (fun l1 a1 u1 v1 => ?_) (fun a1 => kx (by rw [E, a1, Option.bind_none]))
          rw [a1, Option.bind_some] at E
          bv_omega
          refine ih (by omega) (by omega) hT u1 v1 (fun t1 m1 P1 b1 x1 y1 => ?_) (fun b1 => kx (by rw [E, b1, Option.bind_none]))
          rw [b1, Option.bind_some] at E
          dsimp only at E
          bv_omega
          refine fw_shutA hT x1 y1 (fun z a u v => ?_) (fun a => kx (by rw [E, a, Option.bind_none]))
          rw [a, Option.bind_some] at E
          bv_omega
          exact k _ z _ E u v
        · have E : pT (e + 1) (40 :: q) = (at_ 32 (rs q)).bind fun l1 => (pT e l1).bind fun p1 => (at_ 32 (p1.2)).bind fun l2 => (pT e l2).bind fun p2 => (at_ 41 p2.2).bind fun z => some (.and p1.1 p2.1, z) := by
            rw [pT_open, if_neg (by rw [hw]; decide +kernel), if_pos hw]
          rw [hw]
          bv_omega
          refine ⟨2, by with_unfolding_all rfl, ?_⟩
          bv_omega
          rw [show intsF 0 (Int.toNat 2) = [PyData.int 0, PyData.int 1] from rfl]
          bv_omega
          try rw [show (" " : Str) = ⟨#[32]⟩ from rfl]
          refine fw_takeA hT h2 hP2 (fun l1 a1 u1 v1 => ?_) (fun a1 => kx (by rw [E, a1, Option.bind_none]))
          rw [a1, Option.bind_some] at E
          bv_omega
          refine ih (by omega) (by omega) hT u1 v1 (fun t1 m1 P1 b1 x1 y1 => ?_) (fun b1 => kx (by rw [E, b1, Option.bind_none]))
          rw [b1, Option.bind_some] at E
          dsimp only at E
          bv_omega
          try rw [show (" " : Str) = ⟨#[32]⟩ from rfl]
          refine fw_takeA hT x1 y1 (fun l2 a2 u2 v2 => ?_) (fun a2 => kx (by rw [E, a2, Option.bind_none]))
          rw [a2, Option.bind_some] at E
          bv_omega
          refine ih (by omega) (by omega) hT u2 v2 (fun t2 m2 P2 b2 x2 y2 => ?_) (fun b2 => kx (by rw [E, b2, Option.bind_none]))
          rw [b2, Option.bind_some] at E
          dsimp only at E
          bv_omega
          refine fw_shutA hT x2 y2 (fun z a u v => ?_) (fun a => kx (by rw [E, a, Option.bind_none]))
          rw [a, Option.bind_some] at E
          bv_omega
          exact k _ z _ E u v
        · have E : pT (e + 1) (40 :: q) = (at_ 32 (rs q)).bind fun l1 => (pT e l1).bind fun p1 => (at_ 32 (p1.2)).bind fun l2 => (pT e l2).bind fun p2 => (at_ 41 p2.2).bind fun z => some (.or p1.1 p2.1, z) := by
            rw [pT_open, if_neg (by rw [hw]; decide +kernel), if_neg (by rw [hw]; decide +kernel), if_pos hw]
          rw [hw]
          bv_omega
          refine ⟨2, by with_unfolding_all rfl, ?_⟩
          bv_omega
          rw [show intsF 0 (Int.toNat 2) = [PyData.int 0, PyData.int 1] from rfl]
          bv_omega
          try rw [show (" " : Str) = ⟨#[32]⟩ from rfl]
          refine fw_takeA hT h2 hP2 (fun l1 a1 u1 v1 => ?_) (fun a1 => kx (by rw [E, a1, Option.bind_none]))
          rw [a1, Option.bind_some] at E
          bv_omega
          refine ih (by omega) (by omega) hT u1 v1 (fun t1 m1 P1 b1 x1 y1 => ?_) (fun b1 => kx (by rw [E, b1, Option.bind_none]))
          rw [b1, Option.bind_some] at E
          dsimp only at E
          bv_omega
          try rw [show (" " : Str) = ⟨#[32]⟩ from rfl]
          refine fw_takeA hT x1 y1 (fun l2 a2 u2 v2 => ?_) (fun a2 => kx (by rw [E, a2, Option.bind_none]))
          rw [a2, Option.bind_some] at E
          bv_omega
          refine ih (by omega) (by omega) hT u2 v2 (fun t2 m2 P2 b2 x2 y2 => ?_) (fun b2 => kx (by rw [E, b2, Option.bind_none]))
          rw [b2, Option.bind_some] at E
          dsimp only at E
          bv_omega
          refine fw_shutA hT x2 y2 (fun z a u v => ?_) (fun a => kx (by rw [E, a, Option.bind_none]))
          rw [a, Option.bind_some] at E
          bv_omega
          exact k _ z _ E u v
      · cases e with
        | zero =>
          rw [pT, if_pos (show (40 :: q).head? = some 40 from rfl)]
        | succ e =>
          have hm : ws q ∉ (["not", "and", "or"] : List Str) := hm.resolve_left (by omega)
          simp only [List.mem_cons, List.not_mem_nil, or_false, not_or] at hm
          rw [pT_open]
          simp only [hm, if_false]
    · have E : pT e l = pTl l := by cases e <;> rw [pT, if_neg ho]
      bv_omega
      refine fw_isOpen (b := false) hT hP (by rw [h]; simp [ho]) ?_
      bv_omega
      refine fw_wordA hT h hP fun P' h2 hP2 => ?_
      have hwl : (ws l).length ≤ 100000 := by
        have e1 : (wd l).length + (rs l).length = l.length := by rw [← List.length_append, wd_rs]
        have e2 : l.length = T.length - P := by rw [← h, List.length_drop, len_L]
        show (wd l).toArray.size ≤ 100000
        rw [List.size_toArray]
        omega
      unfold pTl at E
      bv_omega
      refine IfK.dec (fun hy => ?_) (fun hy => ?_)
      · simp only [List.mem_cons, List.not_mem_nil, or_false] at hy
        rcases hy with hy | hy
        · rw [if_pos hy] at E
          rw [hy]
          bv_omega
          exact k _ _ _ E h2 hP2
        · rw [if_neg (by rw [hy]; decide +kernel), if_pos hy] at E
          rw [hy]
          bv_omega
          exact k _ _ _ E h2 hP2
      · simp only [List.mem_cons, List.not_mem_nil, or_false, not_or] at hy
        rw [if_neg hy.1, if_neg hy.2] at E
        bv_omega
        refine fw_isName hwl ?_
        bv_omega
        refine fw_needA (fun e1 => ?_) (fun e1 => kx (by rw [E, if_neg (by rw [e1]; decide)]))
        rw [if_pos e1] at E
        bv_omega
        exact k _ _ _ E h2 hP2
theorem fw_tkE {T : Str} {r : Int} : ∀ {e n d P : Nat} {l : List Nat} {A : O → List O → Prop} {B : Exn → Prop}, e + 1 ≤ n → d + e = 8 → T.length ≤ 100000 → T.cps.toList.drop P = l → P ≤ T.length →
    (∀ t q P', pE e l = some (t, q) → T.cps.toList.drop P' = q → P' ≤ T.length → A (.d (Err.d t)) [rdI T r (P' : Nat) d]) → (pE e l = none → B (xB r)) → FW (f_Reading_take_errand n [rdI T r P d]) A B
  | _, 0, _, _, _, _, _, h, _, _, _, _, _, _ => by omega
  | e, n + 1, d, P, l, A, B, hn, hd, hT, h, hP, k, kx => by
    unfold f_Reading_take_errand
    with_reducible refine Stp.go ?_
    by_cases ho : l.head? = some 40
    · obtain ⟨q, rfl⟩ : ∃ q, l = 40 :: q := by
        cases l with
        | nil => cases ho
        | cons c q =>
          have : c = 40 := by simpa using ho
          exact ⟨q, by rw [this]⟩
      bv_omega
      refine fw_isOpen (b := true) hT hP (by rw [h]; simp) ?_
      bv_omega
      rw [show (O.lst [O.d (PyData.str "then"), O.d (PyData.str "if"), O.d (PyData.str "while"), O.d (PyData.str "either"), O.d (PyData.str "often")]) = .lst (((["then", "if", "while", "either", "often"] : List Str).map PyData.str).map O.d) from rfl]
      refine fw_headA hT h hP (by decide) (fun P' hd1 hm h2 hP2 => ?_) (fun hm => kx ?_)
      · obtain ⟨e, rfl⟩ : ∃ e0, e = e0 + 1 := ⟨e - 1, by omega⟩
        have ih := @fw_tkE T r e n
        simp only [List.mem_cons, List.not_mem_nil, or_false] at hm
        rcases hm with hw | hw | hw | hw | hw
        · have E : pE (e + 1) (40 :: q) = (at_ 32 (rs q)).bind fun l1 => (pE e l1).bind fun p1 => (at_ 32 (p1.2)).bind fun l2 => (pE e l2).bind fun p2 => (at_ 41 p2.2).bind fun z => some (.thn p1.1 p2.1, z) := by
            rw [pE_open, if_pos hw]
          rw [hw]
          bv_omega
          refine ⟨2, by with_unfolding_all rfl, ?_⟩
          bv_omega
          rw [show intsF 0 (Int.toNat 2) = [PyData.int 0, PyData.int 1] from rfl]
          bv_omega
          try rw [show (" " : Str) = ⟨#[32]⟩ from rfl]
          refine fw_takeA hT h2 hP2 (fun l1 a1 u1 v1 => ?_) (fun a1 => kx (by rw [E, a1, Option.bind_none]))
          rw [a1, Option.bind_some] at E
          bv_omega
          refine ih (by omega) (by omega) hT u1 v1 (fun t1 m1 P1 b1 x1 y1 => ?_) (fun b1 => kx (by rw [E, b1, Option.bind_none]))
          rw [b1, Option.bind_some] at E
          dsimp only at E
          bv_omega
          try rw [show (" " : Str) = ⟨#[32]⟩ from rfl]
          refine fw_takeA hT x1 y1 (fun l2 a2 u2 v2 => ?_) (fun a2 => kx (by rw [E, a2, Option.bind_none]))
          rw [a2, Option.bind_some] at E
          bv_omega
          refine ih (by omega) (by omega) hT u2 v2 (fun t2 m2 P2 b2 x2 y2 => ?_) (fun b2 => kx (by rw [E, b2, Option.bind_none]))
          rw [b2, Option.bind_some] at E
          dsimp only at E
          bv_omega
          refine fw_shutA hT x2 y2 (fun z a u v => ?_) (fun a => kx (by rw [E, a, Option.bind_none]))
          rw [a, Option.bind_some] at E
          bv_omega
          exact k _ z _ E u v
        · have E : pE (e + 1) (40 :: q) = (at_ 32 (rs q)).bind fun l1 => (pT e l1).bind fun p1 => (at_ 32 (p1.2)).bind fun l2 => (pE e l2).bind fun p2 => (at_ 32 (p2.2)).bind fun l3 => (pE e l3).bind fun p3 => (at_ 41 p3.2).bind fun z => some (.iff p1.1 p2.1 p3.1, z) := by
            rw [pE_open, if_neg (by rw [hw]; decide +kernel), if_pos hw]
          rw [hw]
          bv_omega
          try rw [show (" " : Str) = ⟨#[32]⟩ from rfl]
          refine fw_takeA hT h2 hP2 (fun l1 a1 u1 v1 => ?_) (fun a1 => kx (by rw [E, a1, Option.bind_none]))
          rw [a1, Option.bind_some] at E
          bv_omega
          refine fw_tkT (e := e) (by omega) (by omega) hT u1 v1 (fun t1 m1 P1 b1 x1 y1 => ?_) (fun b1 => kx (by rw [E, b1, Option.bind_none]))
          rw [b1, Option.bind_some] at E
          dsimp only at E
          bv_omega
          refine ⟨2, by with_unfolding_all rfl, ?_⟩
          bv_omega
          rw [show intsF 0 (Int.toNat 2) = [PyData.int 0, PyData.int 1] from rfl]
          bv_omega
          try rw [show (" " : Str) = ⟨#[32]⟩ from rfl]
          refine fw_takeA hT x1 y1 (fun l2 a2 u2 v2 => ?_) (fun a2 => kx (by rw [E, a2, Option.bind_none]))
          rw [a2, Option.bind_some] at E
          bv_omega
          refine ih (by omega) (by omega) hT u2 v2 (fun t2 m2 P2 b2 x2 y2 => ?_) (fun b2 => kx (by rw [E, b2, Option.bind_none]))
          rw [b2, Option.bind_some] at E
          dsimp only at E
          bv_omega
          try rw [show (" " : Str) = ⟨#[32]⟩ from rfl]
          refine fw_takeA hT x2 y2 (fun l3 a3 u3 v3 => ?_) (fun a3 => kx (by rw [E, a3, Option.bind_none]))
          rw [a3, Option.bind_some] at E
          bv_omega
          refine ih (by omega) (by omega) hT u3 v3 (fun t3 m3 P3 b3 x3 y3 => ?_) (fun b3 => kx (by rw [E, b3, Option.bind_none]))
          rw [b3, Option.bind_some] at E
          dsimp only at E
          bv_omega
          refine fw_shutA hT x3 y3 (fun z a u v => ?_) (fun a => kx (by rw [E, a, Option.bind_none]))
          rw [a, Option.bind_some] at E
          bv_omega
          exact k _ z _ E u v
        · have E : pE (e + 1) (40 :: q) = (at_ 32 (rs q)).bind fun l1 => (pT e l1).bind fun p1 => (at_ 32 (p1.2)).bind fun l2 => (pE e l2).bind fun p2 => (at_ 41 p2.2).bind fun z => some (.whl p1.1 p2.1, z) := by
            rw [pE_open, if_neg (by rw [hw]; decide +kernel), if_neg (by rw [hw]; decide +kernel), if_pos hw]
          rw [hw]
          bv_omega
          try rw [show (" " : Str) = ⟨#[32]⟩ from rfl]
          refine fw_takeA hT h2 hP2 (fun l1 a1 u1 v1 => ?_) (fun a1 => kx (by rw [E, a1, Option.bind_none]))
          rw [a1, Option.bind_some] at E
          bv_omega
          refine fw_tkT (e := e) (by omega) (by omega) hT u1 v1 (fun t1 m1 P1 b1 x1 y1 => ?_) (fun b1 => kx (by rw [E, b1, Option.bind_none]))
          rw [b1, Option.bind_some] at E
          dsimp only at E
          bv_omega
          refine ⟨1, by with_unfolding_all rfl, ?_⟩
          bv_omega
          rw [show intsF 0 (Int.toNat 1) = [PyData.int 0] from rfl]
          bv_omega
          try rw [show (" " : Str) = ⟨#[32]⟩ from rfl]
          refine fw_takeA hT x1 y1 (fun l2 a2 u2 v2 => ?_) (fun a2 => kx (by rw [E, a2, Option.bind_none]))
          rw [a2, Option.bind_some] at E
          bv_omega
          refine ih (by omega) (by omega) hT u2 v2 (fun t2 m2 P2 b2 x2 y2 => ?_) (fun b2 => kx (by rw [E, b2, Option.bind_none]))
          rw [b2, Option.bind_some] at E
          dsimp only at E
          bv_omega
          refine fw_shutA hT x2 y2 (fun z a u v => ?_) (fun a => kx (by rw [E, a, Option.bind_none]))
          rw [a, Option.bind_some] at E
          bv_omega
          exact k _ z _ E u v
        · have E : pE (e + 1) (40 :: q) = (at_ 32 (rs q)).bind fun l1 => (pE e l1).bind fun p1 => (at_ 32 (p1.2)).bind fun l2 => (pE e l2).bind fun p2 => (at_ 41 p2.2).bind fun z => some (.eth p1.1 p2.1, z) := by
            rw [pE_open, if_neg (by rw [hw]; decide +kernel), if_neg (by rw [hw]; decide +kernel), if_neg (by rw [hw]; decide +kernel), if_pos hw]
          rw [hw]
          bv_omega
          refine ⟨2, by with_unfolding_all rfl, ?_⟩
          bv_omega
          rw [show intsF 0 (Int.toNat 2) = [PyData.int 0, PyData.int 1] from rfl]
          bv_omega
          try rw [show (" " : Str) = ⟨#[32]⟩ from rfl]
          refine fw_takeA hT h2 hP2 (fun l1 a1 u1 v1 => ?_) (fun a1 => kx (by rw [E, a1, Option.bind_none]))
          rw [a1, Option.bind_some] at E
          bv_omega
          refine ih (by omega) (by omega) hT u1 v1 (fun t1 m1 P1 b1 x1 y1 => ?_) (fun b1 => kx (by rw [E, b1, Option.bind_none]))
          rw [b1, Option.bind_some] at E
          dsimp only at E
          bv_omega
          try rw [show (" " : Str) = ⟨#[32]⟩ from rfl]
          refine fw_takeA hT x1 y1 (fun l2 a2 u2 v2 => ?_) (fun a2 => kx (by rw [E, a2, Option.bind_none]))
          rw [a2, Option.bind_some] at E
          bv_omega
          refine ih (by omega) (by omega) hT u2 v2 (fun t2 m2 P2 b2 x2 y2 => ?_) (fun b2 => kx (by rw [E, b2, Option.bind_none]))
          rw [b2, Option.bind_some] at E
          dsimp only at E
          bv_omega
          refine fw_shutA hT x2 y2 (fun z a u v => ?_) (fun a => kx (by rw [E, a, Option.bind_none]))
          rw [a, Option.bind_some] at E
          bv_omega
          exact k _ z _ E u v
        · have E : pE (e + 1) (40 :: q) = (at_ 32 (rs q)).bind fun l1 => (pE e l1).bind fun p1 => (at_ 41 p1.2).bind fun z => some (.often p1.1, z) := by
            rw [pE_open, if_neg (by rw [hw]; decide +kernel), if_neg (by rw [hw]; decide +kernel), if_neg (by rw [hw]; decide +kernel), if_neg (by rw [hw]; decide +kernel), if_pos hw]
          rw [hw]
          bv_omega
          refine ⟨1, by with_unfolding_all rfl, ?_⟩
          bv_omega
          rw [show intsF 0 (Int.toNat 1) = [PyData.int 0] from rfl]
          bv_omega
          try rw [show (" " : Str) = ⟨#[32]⟩ from rfl]
          refine fw_takeA hT h2 hP2 (fun l1 a1 u1 v1 => ?_) (fun a1 => kx (by rw [E, a1, Option.bind_none]))
          rw [a1, Option.bind_some] at E
          bv_omega
          refine ih (by omega) (by omega) hT u1 v1 (fun t1 m1 P1 b1 x1 y1 => ?_) (fun b1 => kx (by rw [E, b1, Option.bind_none]))
          rw [b1, Option.bind_some] at E
          dsimp only at E
          bv_omega
          refine fw_shutA hT x1 y1 (fun z a u v => ?_) (fun a => kx (by rw [E, a, Option.bind_none]))
          rw [a, Option.bind_some] at E
          bv_omega
          exact k _ z _ E u v
      · cases e with
        | zero =>
          rw [pE, if_pos (show (40 :: q).head? = some 40 from rfl)]
        | succ e =>
          have hm : ws q ∉ (["then", "if", "while", "either", "often"] : List Str) := hm.resolve_left (by omega)
          simp only [List.mem_cons, List.not_mem_nil, or_false, not_or] at hm
          rw [pE_open]
          simp only [hm, if_false]
    · have E : pE e l = pEl l := by cases e <;> rw [pE, if_neg ho]
      bv_omega
      refine fw_isOpen (b := false) hT hP (by rw [h]; simp [ho]) ?_
      bv_omega
      refine fw_wordA hT h hP fun P' h2 hP2 => ?_
      have hwl : (ws l).length ≤ 100000 := by
        have e1 : (wd l).length + (rs l).length = l.length := by rw [← List.length_append, wd_rs]
        have e2 : l.length = T.length - P := by rw [← h, List.length_drop, len_L]
        show (wd l).toArray.size ≤ 100000
        rw [List.size_toArray]
        omega
      unfold pEl at E
      bv_omega
      refine IfK.dec (fun hy => ?_) (fun hy => ?_)
      · rw [if_pos hy] at E
        bv_omega
        exact k _ _ _ E h2 hP2
      · rw [if_neg hy] at E
        bv_omega
        refine fw_isName hwl ?_
        bv_omega
        refine fw_needA (fun e1 => ?_) (fun e1 => kx (by rw [E, if_neg (by rw [e1]; decide)]))
        rw [if_pos e1] at E
        bv_omega
        exact k _ _ _ E h2 hP2
end G
namespace G
open PySem PySem.Spec L2 Z
def KS : List (Str × List Bool × Bool) := [("not", [true], true), ("and", [true, true], true), ("or", [true, true], true), ("then", [false, false], false), ("either", [false, false], false), ("if", [true, false, false], false), ("while", [true, false], false), ("often", [false], false)]
def hole (s : Bool) : List Nat := if s = true then [126, 116] else [126, 101]
def lf (s : Bool) (w : List Nat) : Prop := (if s = true then w = L "yes" ∨ w = L "no" else w = L "done") ∨ w = hole s ∨ nmB ⟨w.toArray⟩ = true
def flt (xs : List (List Nat)) : List Nat := xs.flatMap fun x => 32 :: x
inductive GG : Bool → List Nat → Prop
  | leaf {s : Bool} {w : List Nat} (h : lf s w) : GG s w
  | node {w : Str} {ss : List Bool} {s : Bool} {xs : List (List Nat)} (h : (w, ss, s) ∈ KS) (hl : xs.length = ss.length) (ha : ∀ i (h1 : i < ss.length) (h2 : i < xs.length), GG ss[i] xs[i]) : GG s (nodT w xs)
theorem nodT_eq (w : Str) (xs : List (List Nat)) : nodT w xs = 40 :: (L w ++ (flt xs ++ [41])) := by
  unfold nodT flt
  rw [List.append_assoc]
theorem flt_app (xs ys : List (List Nat)) : flt (xs ++ ys) = flt xs ++ flt ys := by
  unfold flt
  rw [List.flatMap_append]
theorem flt_cons (x : List Nat) (xs : List (List Nat)) : flt (x :: xs) = 32 :: (x ++ flt xs) := by
  unfold flt
  rw [List.flatMap_cons]
  rfl
theorem ks_sg {w : Str} {ss : List Bool} {s : Bool} (h : (w, ss, s) ∈ KS) : ∀ c ∈ L w, sgB c = true := by
  have : ∀ k ∈ KS, ∀ c ∈ L k.1, sgB c = true := by decide +kernel
  exact this _ h
theorem nm_all {w : List Nat} (h : nmB ⟨w.toArray⟩ = true) : ∀ c ∈ w, sgB c = true := by
  unfold nmB at h
  rw [Bool.and_eq_true] at h
  intro c m
  exact List.all_eq_true.mp h.2 c (by simpa using m)
theorem lf_sg {s : Bool} {w : List Nat} (h : lf s w) : (∀ c ∈ w, sgB c = true) ∨ w = hole s := by
  unfold lf at h
  rcases h with h | h | h
  · left
    cases s with
    | true =>
      rcases h with e | e <;> subst e <;> decide +kernel
    | false =>
      have e : w = L "done" := h
      subst e
      decide +kernel
  · exact .inr h
  · exact .inl (nm_all h)
theorem lf_no {s : Bool} {w : List Nat} (h : lf s w) {c : Nat} (hc : c = 40 ∨ c = 41 ∨ c = 32) : c ∉ w := by
  rcases lf_sg h with h | h
  · intro m
    have := h c m
    rcases hc with e | e | e <;> subst e <;> simp [sgB] at this
  · subst h
    cases s <;> rcases hc with e | e | e <;> subst e <;> decide
theorem ks_no {w : Str} {ss : List Bool} {s : Bool} (h : (w, ss, s) ∈ KS) {c : Nat} (hc : c = 40 ∨ c = 41 ∨ c = 32 ∨ c = 126) : c ∉ L w := fun m => by
  have := ks_sg h c m
  rcases hc with e | e | e | e <;> subst e <;> simp [sgB] at this
/-- where a sign of the parts stands -/
theorem in_flt {m : Nat} (hm : m ≠ 32) : ∀ {xs : List (List Nat)} {z A R : List Nat}, flt xs ++ z = A ++ m :: R →
    (∃ x1 x x2 p q, xs = x1 ++ x :: x2 ∧ x = p ++ m :: q ∧ A = flt x1 ++ 32 :: p ∧ R = q ++ (flt x2 ++ z)) ∨ ∃ A', A = flt xs ++ A' ∧ z = A' ++ m :: R
  | [], z, A, R, h => .inr ⟨A, rfl, h⟩
  | x :: xs, z, A, R, h => by
    rw [flt_cons] at h
    cases A with
    | nil =>
      have : (32 : Nat) = m := by
        have := List.head_eq_of_cons_eq h
        exact this
      exact absurd this.symm hm
    | cons a A =>
      have e1 : (32 : Nat) = a := List.head_eq_of_cons_eq h
      have e2 : x ++ flt xs ++ z = A ++ m :: R := List.tail_eq_of_cons_eq h
      subst e1
      rw [List.append_assoc] at e2
      rcases List.append_eq_append_iff.mp e2 with ⟨a', ea, eb⟩ | ⟨c', ea, eb⟩
      · rcases in_flt hm eb with ⟨x1, y, x2, p, q, f1, f2, f3, f4⟩ | ⟨A', f1, f2⟩
        · refine .inl ⟨x :: x1, y, x2, p, q, by rw [f1]; rfl, f2, ?_, f4⟩
          rw [ea, f3, flt_cons]
          simp
        · refine .inr ⟨A', ?_, f2⟩
          rw [ea, f1, flt_cons]
          simp
      · cases c' with
        | nil =>
          rcases in_flt hm (A := []) (show flt xs ++ z = [] ++ m :: R from eb.symm) with ⟨x1, y, x2, p, q, f1, f2, f3, f4⟩ | ⟨A', f1, f2⟩
          · cases x1 <;> simp [flt] at f3
          · refine .inr ⟨A', ?_, f2⟩
            rw [List.append_nil] at ea
            rw [flt_cons, ← ea]
            have : flt xs = [] ∧ A' = [] := by simpa using f1.symm
            rw [this.1, this.2]
            simp
        | cons k c' =>
          have e3 : m = k := List.head_eq_of_cons_eq eb
          have e4 : R = c' ++ (flt xs ++ z) := List.tail_eq_of_cons_eq eb
          subst e3
          exact .inl ⟨[], x, xs, A, c', rfl, ea, rfl, e4⟩
theorem gg_leaf {s : Bool} {l : List Nat} (h : GG s l) (h0 : (40 : Nat) ∉ l) : lf s l := by
  cases h with
  | leaf h => exact h
  | node h hl ha => exact absurd (by rw [nodT_eq]; simp) h0
theorem gg_last {s : Bool} {l p q : List Nat} (h : GG s l) (e : l = p ++ 40 :: q) : (41 : Nat) ∈ q := by
  cases h with
  | leaf h => exact absurd (by rw [e]; simp) (lf_no h (.inl rfl))
  | @node w ss s xs h hl ha =>
    rw [nodT_eq] at e
    have e1 : (40 :: (L w ++ flt xs)) ++ [41] = p ++ 40 :: q := by rw [← e]; simp
    rcases List.eq_nil_or_concat q with e0 | ⟨q', x, e0⟩
    · subst e0
      have := (List.append_inj' e1 rfl).2
      cases this
    · rw [List.concat_eq_append] at e0
      subst e0
      have e2 : (40 :: (L w ++ flt xs)) ++ [41] = (p ++ 40 :: q') ++ [x] := by rw [e1]; simp
      have := (List.append_inj' e2 rfl).2
      cases this
      simp
theorem first_eq {m : Nat} : ∀ {u u' v v' : List Nat}, u ++ m :: v = u' ++ m :: v' → m ∉ u → m ∉ u' → u = u' ∧ v = v'
  | [], [], _, _, h, _, _ => ⟨rfl, List.tail_eq_of_cons_eq h⟩
  | [], x :: u', _, _, h, _, h2 => absurd (by have : m = x := List.head_eq_of_cons_eq h; rw [this]; simp) h2
  | x :: u, [], _, _, h, h1, _ => absurd (by have : x = m := List.head_eq_of_cons_eq h; rw [this]; simp) h1
  | x :: u, y :: u', v, v', h, h1, h2 => by
    have e1 : x = y := List.head_eq_of_cons_eq h
    have e2 : u ++ m :: v = u' ++ m :: v' := List.tail_eq_of_cons_eq h
    obtain ⟨f1, f2⟩ := first_eq e2 (fun z => h1 (List.mem_cons_of_mem _ z)) (fun z => h2 (List.mem_cons_of_mem _ z))
    exact ⟨by rw [e1, f1], f2⟩
def BR (ins : List Nat) (s : Bool) : Prop := ∃ w ss xs, (w, ss, s) ∈ KS ∧ xs.length = ss.length ∧ (∀ i (h1 : i < ss.length) (h2 : i < xs.length), lf ss[i] xs[i]) ∧ ins = L w ++ flt xs
theorem br_gg {ins : List Nat} {s : Bool} (h : BR ins s) : GG s (40 :: (ins ++ [41])) := by
  obtain ⟨w, ss, xs, hK, hl, ha, e⟩ := h
  have := GG.node hK hl fun i h1 h2 => .leaf (ha i h1 h2)
  rw [nodT_eq] at this
  rw [e, List.append_assoc]
  exact this
theorem node_set {w : Str} {ss : List Bool} {s : Bool} {x1 x2 : List (List Nat)} {x y : List Nat} (hK : (w, ss, s) ∈ KS) (hl : (x1 ++ x :: x2).length = ss.length)
    (ha : ∀ i (h1 : i < ss.length) (h2 : i < (x1 ++ x :: x2).length), GG ss[i] (x1 ++ x :: x2)[i]) (hj : x1.length < ss.length) (hy : GG ss[x1.length] y) : GG s (nodT w (x1 ++ y :: x2)) := by
  refine .node hK (by simpa using hl) fun i h1 h2 => ?_
  rcases Nat.lt_trichotomy i x1.length with h | h | h
  · have e := ha i h1 (by rw [List.length_append]; omega)
    rw [List.getElem_append_left h] at e ⊢
    exact e
  · subst h
    rw [List.getElem_append_right (Nat.le_refl _)]
    simpa using hy
  · have h2' := h2
    rw [List.length_append, List.length_cons] at h2'
    have e := ha i h1 (by rw [List.length_append, List.length_cons]; omega)
    obtain ⟨k, hk⟩ : ∃ k, i - x1.length = k + 1 := ⟨i - x1.length - 1, by omega⟩
    rw [List.getElem_append_right (by omega)] at e ⊢
    simp only [hk, List.getElem_cons_succ] at e ⊢
    exact e
theorem node_at {w : Str} {xs : List (List Nat)} {a R : List Nat} {m : Nat} (hw : m ∉ L w) (h32 : m ≠ 32) (h41 : m ≠ 41) (e : L w ++ (flt xs ++ [41]) = a ++ m :: R) :
    ∃ x1 x x2 p q, xs = x1 ++ x :: x2 ∧ x = p ++ m :: q ∧ a = L w ++ (flt x1 ++ 32 :: p) ∧ R = q ++ (flt x2 ++ [41]) := by
  obtain ⟨A, ea, eb⟩ : ∃ A, a = L w ++ A ∧ flt xs ++ [41] = A ++ m :: R := by
    rcases List.append_eq_append_iff.mp e with ⟨a', h1, h2⟩ | ⟨c', h1, h2⟩
    · exact ⟨a', h1, h2⟩
    · cases c' with
      | nil => exact ⟨[], by rw [h1]; simp, h2.symm⟩
      | cons k c' =>
        have : m = k := List.head_eq_of_cons_eq h2
        exact absurd (by rw [h1, this]; simp) hw
  rcases in_flt h32 eb with ⟨x1, x, x2, p, q, f1, f2, f3, f4⟩ | ⟨A', f1, f2⟩
  · exact ⟨x1, x, x2, p, q, f1, f2, by rw [ea, f3], f4⟩
  · cases A' with
    | nil => exact absurd (List.head_eq_of_cons_eq f2).symm h41
    | cons z A' => simp at f2
theorem gg_red {s : Bool} {l : List Nat} (h : GG s l) : ∀ a ins c, l = a ++ 40 :: (ins ++ 41 :: c) → (40 : Nat) ∉ ins → (41 : Nat) ∉ ins → (40 : Nat) ∉ c → ∃ s', BR ins s' ∧ GG s (a ++ (hole s' ++ c)) := by
  induction h with
  | leaf h =>
    intro a ins c e _ _ _
    exact absurd (by rw [e]; simp) (lf_no h (.inl rfl))
  | @node w ss s xs hK hl ha ih =>
    intro a ins c e h1 h2 h3
    rw [nodT_eq] at e
    cases a with
    | nil =>
      have e1 : L w ++ (flt xs ++ [41]) = ins ++ 41 :: c := List.tail_eq_of_cons_eq e
      have hx : ∀ x ∈ xs, (40 : Nat) ∉ x := fun x m z => by
        have : (40 : Nat) ∈ L w ++ (flt xs ++ [41]) := by
          refine List.mem_append_right _ (List.mem_append_left _ ?_)
          exact List.mem_flatMap.mpr ⟨x, m, List.mem_cons_of_mem _ z⟩
        rw [e1] at this
        rcases List.mem_append.mp this with z | z
        · exact h1 z
        · rcases List.mem_cons.mp z with z | z
          · cases z
          · exact h3 z
      have hlf : ∀ i (h1 : i < ss.length) (h2 : i < xs.length), lf ss[i] xs[i] := fun i h1 h2 => gg_leaf (ha i h1 h2) (hx _ (List.getElem_mem _))
      have hx2 : ∀ x ∈ xs, (41 : Nat) ∉ x := fun x m => by
        obtain ⟨i, hi, rfl⟩ := List.getElem_of_mem m
        exact lf_no (hlf i (by omega) hi) (.inr (.inl rfl))
      have h41 : (41 : Nat) ∉ L w ++ flt xs := fun m => by
        rcases List.mem_append.mp m with m | m
        · exact ks_no hK (.inr (.inl rfl)) m
        · obtain ⟨x, hx, hc⟩ := List.mem_flatMap.mp m
          rcases List.mem_cons.mp hc with z | z
          · cases z
          · exact hx2 x hx z
      rw [← List.append_assoc] at e1
      obtain ⟨f1, f2⟩ := first_eq e1 h41 h2
      refine ⟨s, ⟨w, ss, xs, hK, hl, hlf, f1.symm⟩, ?_⟩
      rw [← f2]
      refine .leaf ?_
      unfold lf
      simp
    | cons a0 a =>
      have e0 : (40 : Nat) = a0 := List.head_eq_of_cons_eq e
      have e1 : L w ++ (flt xs ++ [41]) = a ++ 40 :: (ins ++ 41 :: c) := List.tail_eq_of_cons_eq e
      obtain ⟨x1, x, x2, p, q, f1, f2, f3, f4⟩ := node_at (ks_no hK (.inl rfl)) (by decide) (by decide) e1
      subst f1
      have hj : x1.length < ss.length := by rw [← hl]; simp
      have hx := ha x1.length hj (by simp)
      have ihx := ih x1.length hj (by simp)
      rw [List.getElem_append_right (Nat.le_refl _)] at hx ihx
      simp only [Nat.sub_self, List.getElem_cons_zero] at hx ihx
      obtain ⟨q1, q2, hq, hq1⟩ := List.eq_append_cons_of_mem (gg_last hx f2)
      subst hq
      rw [List.append_assoc] at f4
      obtain ⟨g1, g2⟩ := first_eq f4 h2 hq1
      subst g1
      obtain ⟨s', hb, hg⟩ := ihx p ins q2 f2 h1 h2 fun z => h3 (by rw [g2]; exact List.mem_append_left _ z)
      refine ⟨s', hb, ?_⟩
      have := node_set hK hl ha hj hg
      rw [nodT_eq, flt_app, flt_cons] at this
      rw [← e0, f3, g2]
      simpa using this
theorem hole_eq (s : Bool) : ∃ k, hole s = [126, k] ∧ k ≠ 32 ∧ k ≠ 41 := by
  cases s
  · exact ⟨101, rfl, by decide, by decide⟩
  · exact ⟨116, rfl, by decide, by decide⟩
theorem gg_exp {s : Bool} {l : List Nat} (h : GG s l) : ∀ a ins c s', l = a ++ (hole s' ++ c) → BR ins s' → GG s (a ++ 40 :: (ins ++ 41 :: c)) := by
  induction h with
  | @leaf s w h =>
    intro a ins c s' e hb
    have m : (126 : Nat) ∈ w := by
      obtain ⟨k, ek, _⟩ := hole_eq s'
      rw [e, ek]
      simp
    rcases lf_sg h with z | z
    · have := z _ m
      simp [sgB] at this
    · rw [z] at e
      have el := congrArg List.length e
      have l1 : ∀ s, (hole s).length = 2 := fun s => by cases s <;> rfl
      rw [List.length_append, List.length_append, l1, l1] at el
      have ha : a = [] := List.length_eq_zero_iff.mp (by omega)
      have hc : c = [] := List.length_eq_zero_iff.mp (by omega)
      subst ha hc
      have : s = s' := by
        cases s <;> cases s' <;> first | rfl | (simp [hole] at e)
      subst this
      exact br_gg hb
  | @node w ss s xs hK hl ha ih =>
    intro a ins c s' e hb
    obtain ⟨k, ek, k1, k2⟩ := hole_eq s'
    rw [nodT_eq, ek] at e
    cases a with
    | nil => cases (List.head_eq_of_cons_eq e : (40 : Nat) = 126)
    | cons a0 a =>
      have e0 : (40 : Nat) = a0 := List.head_eq_of_cons_eq e
      have e1 : L w ++ (flt xs ++ [41]) = a ++ 126 :: (k :: c) := List.tail_eq_of_cons_eq e
      obtain ⟨x1, x, x2, p, q, f1, f2, f3, f4⟩ := node_at (ks_no hK (.inr (.inr (.inr rfl)))) (by decide) (by decide) e1
      subst f1
      have hj : x1.length < ss.length := by rw [← hl]; simp
      have ihx := ih x1.length hj (by simp)
      rw [List.getElem_append_right (Nat.le_refl _)] at ihx
      simp only [Nat.sub_self, List.getElem_cons_zero] at ihx
      cases q with
      | nil =>
        cases x2 with
        | nil => exact absurd (List.head_eq_of_cons_eq f4) k2
        | cons y x2 =>
          rw [flt_cons] at f4
          exact absurd (List.head_eq_of_cons_eq f4) k1
      | cons k' q =>
        have g1 : k = k' := List.head_eq_of_cons_eq f4
        have g2 : c = q ++ (flt x2 ++ [41]) := List.tail_eq_of_cons_eq f4
        subst g1
        have hg := ihx p ins q s' (by rw [f2, ek]; rfl) hb
        have := node_set hK hl ha hj hg
        rw [nodT_eq, flt_app, flt_cons] at this
        rw [← e0, f3, g2]
        simpa using this
def scD (d : Int) (c : Nat) : Int := if c = 40 then d + 1 else if c = 41 then d - 1 else d
def bad (d : Int) (c : Nat) : Prop := scD d c < 0 ∨ scD d c > 8 ∨ c = 126
instance bad_dec (d : Int) (c : Nat) : Decidable (bad d c) := by unfold bad; exact inferInstance
def sc : Int → List Nat → Bool
  | _, [] => true
  | d, c :: r => if bad d c then false else sc (scD d c) r
theorem sc_cons (d : Int) (c : Nat) (r : List Nat) : sc d (c :: r) = if bad d c then false else sc (scD d c) r := rfl
theorem scD_40 (d : Int) : scD d 40 = d + 1 := rfl
theorem scD_41 (d : Int) : scD d 41 = d - 1 := rfl
theorem scD_ne {d : Int} {c : Nat} (h : c ≠ 40 ∧ c ≠ 41) : scD d c = d := by
  unfold scD
  rw [if_neg h.1, if_neg h.2]
theorem sc_one {d : Int} {c : Nat} {r : List Nat} (h : c ≠ 40 ∧ c ≠ 41 ∧ c ≠ 126) (h0 : 0 ≤ d) (h1 : d ≤ 8) : sc d (c :: r) = sc d r := by
  have e := scD_ne (d := d) ⟨h.1, h.2.1⟩
  rw [sc_cons, e, if_neg]
  unfold bad
  rw [e]
  omega
theorem sc_skip {d : Int} (h0 : 0 ≤ d) (h1 : d ≤ 8) : ∀ {w r : List Nat}, (∀ c ∈ w, c ≠ 40 ∧ c ≠ 41 ∧ c ≠ 126) → sc d (w ++ r) = sc d r
  | [], _, _ => rfl
  | c :: w, r, h => by
    rw [List.cons_append, sc_one (h c (by simp)) h0 h1]
    exact sc_skip h0 h1 fun c m => h c (List.mem_cons_of_mem _ m)
theorem sc_open {d : Int} {r : List Nat} (h0 : 0 ≤ d) : sc d (40 :: r) = if d + 1 > 8 then false else sc (d + 1) r := by
  rw [sc_cons, scD_40]
  by_cases h : d + 1 > 8
  · rw [if_pos h, if_pos (.inr (.inl (by rw [scD_40]; exact h)))]
  · rw [if_neg h, if_neg]
    unfold bad
    rw [scD_40]
    omega
theorem sc_shut {d : Int} {r : List Nat} (h1 : d ≤ 8) : sc d (41 :: r) = if d - 1 < 0 then false else sc (d - 1) r := by
  rw [sc_cons, scD_41]
  by_cases h : d - 1 < 0
  · rw [if_pos h, if_pos (.inl (by rw [scD_41]; exact h))]
  · rw [if_neg h, if_neg]
    unfold bad
    rw [scD_41]
    omega
theorem sc_126 : ∀ {l : List Nat} {d : Int}, sc d l = true → (126 : Nat) ∉ l
  | [], _, _ => by simp
  | c :: r, d, h => by
    rw [sc_cons] at h
    by_cases hb : bad d c
    · rw [if_pos hb] at h
      cases h
    · rw [if_neg hb] at h
      intro m
      rcases List.mem_cons.mp m with e | m
      · exact hb (.inr (.inr e.symm))
      · exact sc_126 h m
theorem sg_sc {c : Nat} (h : sgB c = true) : c ≠ 40 ∧ c ≠ 41 ∧ c ≠ 126 := by
  unfold sgB at h
  simp only [Bool.and_eq_true, decide_eq_true_eq] at h
  omega
theorem nmB_ok {z : Str} (h : nmB z = true) : NmOk z := by
  unfold nmB at h
  simp only [Bool.and_eq_true, decide_eq_true_eq, Bool.not_eq_true', decide_eq_false_iff_not] at h
  obtain ⟨⟨⟨h1, h2⟩, h3⟩, h4⟩ := h
  refine ⟨h1, h2, fun c m => ?_, fun m => h3 ?_⟩
  · have := List.all_eq_true.mp h4 c m
    rw [← lets_sg] at this
    exact of_decide_eq_true this
  · exact m
def tns : Tst → List Str
  | .yes => []
  | .no => []
  | .ask q => [q]
  | .not t => tns t
  | .and a b => tns a ++ tns b
  | .or a b => tns a ++ tns b
theorem tns_over : ∀ {t : Tst} {qs : List Str}, (∀ q ∈ tns t, q ∈ qs) → t.over qs
  | .yes, _, _ => trivial
  | .no, _, _ => trivial
  | .ask q, _, h => h q (by simp [tns])
  | .not t, _, h => tns_over (t := t) h
  | .and a b, _, h => ⟨tns_over fun q m => h q (List.mem_append_left _ m), tns_over fun q m => h q (List.mem_append_right _ m)⟩
  | .or a b, _, h => ⟨tns_over fun q m => h q (List.mem_append_left _ m), tns_over fun q m => h q (List.mem_append_right _ m)⟩
/-- names are names -/
def tok (t : Tst) : Prop := ∀ q ∈ tns t, NmOk q
def ens : Err → List Str
  | .done => []
  | .doo p => [p]
  | .often u => ens u
  | .whl t u => tns t ++ ens u
  | .thn u v => ens u ++ ens v
  | .iff t u v => tns t ++ (ens u ++ ens v)
  | .eth u v => ens u ++ ens v
def eok (t : Err) : Prop := ∀ q ∈ ens t, NmOk q
theorem ws_eq {l : List Nat} {w : Str} (h : ws l = w) : wd l = L w := by
  rw [← h]
  simp [ws, L]
theorem pT_spec : ∀ {e : Nat} {l r : List Nat} {t : Tst}, pT e l = some (t, r) → l = tT t ++ r ∧ tok t ∧ t.deep ≤ e + 1
  | e, l, r, t, h => by
    by_cases ho : l.head? = some 40
    · obtain ⟨q, rfl⟩ : ∃ q, l = 40 :: q := by
        cases l with
        | nil => cases ho
        | cons c q =>
          have : c = 40 := by simpa using ho
          exact ⟨q, by rw [this]⟩
      cases e with
      | zero =>
        rw [pT, if_pos (show (40 :: q).head? = some 40 from rfl)] at h
        cases h
      | succ e =>
        have hq : wd q ++ rs q = q := wd_rs q
        rw [pT_open] at h
        by_cases hw : ws q = "not"
        · rw [if_pos hw] at h
          rw [ws_eq hw] at hq
          obtain ⟨l1, a1, h⟩ := Option.bind_eq_some_iff.mp h
          obtain ⟨⟨t1, m1⟩, b1, h⟩ := Option.bind_eq_some_iff.mp h
          dsimp only at h
          obtain ⟨z, a, h⟩ := Option.bind_eq_some_iff.mp h
          cases h
          obtain ⟨c1, d1, e1⟩ := pT_spec b1
          have a1 := at_eq a1
          have a := at_eq a
          refine ⟨?_, ?_, ?_⟩
          · show 40 :: q = nodT "not" [tT t1] ++ r
            rw [nodT_eq, ← hq, a1, c1, a]
            simp [flt]
          · exact d1
          · simp only [Tst.deep]
            omega
        rw [if_neg hw] at h
        by_cases hw : ws q = "and"
        · rw [if_pos hw] at h
          rw [ws_eq hw] at hq
          obtain ⟨l1, a1, h⟩ := Option.bind_eq_some_iff.mp h
          obtain ⟨⟨t1, m1⟩, b1, h⟩ := Option.bind_eq_some_iff.mp h
          dsimp only at h
          obtain ⟨l2, a2, h⟩ := Option.bind_eq_some_iff.mp h
          obtain ⟨⟨t2, m2⟩, b2, h⟩ := Option.bind_eq_some_iff.mp h
          dsimp only at h
          obtain ⟨z, a, h⟩ := Option.bind_eq_some_iff.mp h
          cases h
          obtain ⟨c1, d1, e1⟩ := pT_spec b1
          have a1 := at_eq a1
          obtain ⟨c2, d2, e2⟩ := pT_spec b2
          have a2 := at_eq a2
          have a := at_eq a
          refine ⟨?_, ?_, ?_⟩
          · show 40 :: q = nodT "and" [tT t1, tT t2] ++ r
            rw [nodT_eq, ← hq, a1, c1, a2, c2, a]
            simp [flt]
          · exact List.forall_mem_append.mpr ⟨d1, d2⟩
          · simp only [Tst.deep]
            omega
        rw [if_neg hw] at h
        by_cases hw : ws q = "or"
        · rw [if_pos hw] at h
          rw [ws_eq hw] at hq
          obtain ⟨l1, a1, h⟩ := Option.bind_eq_some_iff.mp h
          obtain ⟨⟨t1, m1⟩, b1, h⟩ := Option.bind_eq_some_iff.mp h
          dsimp only at h
          obtain ⟨l2, a2, h⟩ := Option.bind_eq_some_iff.mp h
          obtain ⟨⟨t2, m2⟩, b2, h⟩ := Option.bind_eq_some_iff.mp h
          dsimp only at h
          obtain ⟨z, a, h⟩ := Option.bind_eq_some_iff.mp h
          cases h
          obtain ⟨c1, d1, e1⟩ := pT_spec b1
          have a1 := at_eq a1
          obtain ⟨c2, d2, e2⟩ := pT_spec b2
          have a2 := at_eq a2
          have a := at_eq a
          refine ⟨?_, ?_, ?_⟩
          · show 40 :: q = nodT "or" [tT t1, tT t2] ++ r
            rw [nodT_eq, ← hq, a1, c1, a2, c2, a]
            simp [flt]
          · exact List.forall_mem_append.mpr ⟨d1, d2⟩
          · simp only [Tst.deep]
            omega
        rw [if_neg hw] at h
        cases h
    · have h : pTl l = some (t, r) := by cases e <;> (rw [pT, if_neg ho] at h; exact h)
      have hl : wd l ++ rs l = l := wd_rs l
      unfold pTl at h
      split at h
      · rename_i hw
        cases h
        rw [ws_eq hw] at hl
        exact ⟨hl.symm, (fun q m => nomatch m), by simp only [Tst.deep]; omega⟩
      · split at h
        · rename_i hw
          cases h
          rw [ws_eq hw] at hl
          exact ⟨hl.symm, (fun q m => nomatch m), by simp only [Tst.deep]; omega⟩
        · split at h
          · rename_i hw
            cases h
            refine ⟨?_, fun q m => ?_, by simp only [Tst.deep]; omega⟩
            · show l = L (ws l) ++ rs l
              rw [show L (ws l) = wd l by simp [ws, L]]
              exact hl.symm
            · rw [List.mem_singleton.mp m]
              exact nmB_ok hw
          · cases h
termination_by e => e
decreasing_by all_goals omega
theorem pE_spec : ∀ {e : Nat} {l r : List Nat} {t : Err}, pE e l = some (t, r) → l = tE t ++ r ∧ eok t ∧ brE t ≤ e
  | e, l, r, t, h => by
    by_cases ho : l.head? = some 40
    · obtain ⟨q, rfl⟩ : ∃ q, l = 40 :: q := by
        cases l with
        | nil => cases ho
        | cons c q =>
          have : c = 40 := by simpa using ho
          exact ⟨q, by rw [this]⟩
      cases e with
      | zero =>
        rw [pE, if_pos (show (40 :: q).head? = some 40 from rfl)] at h
        cases h
      | succ e =>
        have hq : wd q ++ rs q = q := wd_rs q
        rw [pE_open] at h
        by_cases hw : ws q = "then"
        · rw [if_pos hw] at h
          rw [ws_eq hw] at hq
          obtain ⟨l1, a1, h⟩ := Option.bind_eq_some_iff.mp h
          obtain ⟨⟨t1, m1⟩, b1, h⟩ := Option.bind_eq_some_iff.mp h
          dsimp only at h
          obtain ⟨l2, a2, h⟩ := Option.bind_eq_some_iff.mp h
          obtain ⟨⟨t2, m2⟩, b2, h⟩ := Option.bind_eq_some_iff.mp h
          dsimp only at h
          obtain ⟨z, a, h⟩ := Option.bind_eq_some_iff.mp h
          cases h
          obtain ⟨c1, d1, e1⟩ := pE_spec b1
          have a1 := at_eq a1
          obtain ⟨c2, d2, e2⟩ := pE_spec b2
          have a2 := at_eq a2
          have a := at_eq a
          refine ⟨?_, ?_, ?_⟩
          · show 40 :: q = nodT "then" [tE t1, tE t2] ++ r
            rw [nodT_eq, ← hq, a1, c1, a2, c2, a]
            simp [flt]
          · exact List.forall_mem_append.mpr ⟨d1, d2⟩
          · simp only [brE]
            omega
        rw [if_neg hw] at h
        by_cases hw : ws q = "if"
        · rw [if_pos hw] at h
          rw [ws_eq hw] at hq
          obtain ⟨l1, a1, h⟩ := Option.bind_eq_some_iff.mp h
          obtain ⟨⟨t1, m1⟩, b1, h⟩ := Option.bind_eq_some_iff.mp h
          dsimp only at h
          obtain ⟨l2, a2, h⟩ := Option.bind_eq_some_iff.mp h
          obtain ⟨⟨t2, m2⟩, b2, h⟩ := Option.bind_eq_some_iff.mp h
          dsimp only at h
          obtain ⟨l3, a3, h⟩ := Option.bind_eq_some_iff.mp h
          obtain ⟨⟨t3, m3⟩, b3, h⟩ := Option.bind_eq_some_iff.mp h
          dsimp only at h
          obtain ⟨z, a, h⟩ := Option.bind_eq_some_iff.mp h
          cases h
          obtain ⟨c1, d1, e1⟩ := pT_spec b1
          have a1 := at_eq a1
          obtain ⟨c2, d2, e2⟩ := pE_spec b2
          have a2 := at_eq a2
          obtain ⟨c3, d3, e3⟩ := pE_spec b3
          have a3 := at_eq a3
          have a := at_eq a
          refine ⟨?_, ?_, ?_⟩
          · show 40 :: q = nodT "if" [tT t1, tE t2, tE t3] ++ r
            rw [nodT_eq, ← hq, a1, c1, a2, c2, a3, c3, a]
            simp [flt]
          · exact List.forall_mem_append.mpr ⟨d1, List.forall_mem_append.mpr ⟨d2, d3⟩⟩
          · simp only [brE]
            omega
        rw [if_neg hw] at h
        by_cases hw : ws q = "while"
        · rw [if_pos hw] at h
          rw [ws_eq hw] at hq
          obtain ⟨l1, a1, h⟩ := Option.bind_eq_some_iff.mp h
          obtain ⟨⟨t1, m1⟩, b1, h⟩ := Option.bind_eq_some_iff.mp h
          dsimp only at h
          obtain ⟨l2, a2, h⟩ := Option.bind_eq_some_iff.mp h
          obtain ⟨⟨t2, m2⟩, b2, h⟩ := Option.bind_eq_some_iff.mp h
          dsimp only at h
          obtain ⟨z, a, h⟩ := Option.bind_eq_some_iff.mp h
          cases h
          obtain ⟨c1, d1, e1⟩ := pT_spec b1
          have a1 := at_eq a1
          obtain ⟨c2, d2, e2⟩ := pE_spec b2
          have a2 := at_eq a2
          have a := at_eq a
          refine ⟨?_, ?_, ?_⟩
          · show 40 :: q = nodT "while" [tT t1, tE t2] ++ r
            rw [nodT_eq, ← hq, a1, c1, a2, c2, a]
            simp [flt]
          · exact List.forall_mem_append.mpr ⟨d1, d2⟩
          · simp only [brE]
            omega
        rw [if_neg hw] at h
        by_cases hw : ws q = "either"
        · rw [if_pos hw] at h
          rw [ws_eq hw] at hq
          obtain ⟨l1, a1, h⟩ := Option.bind_eq_some_iff.mp h
          obtain ⟨⟨t1, m1⟩, b1, h⟩ := Option.bind_eq_some_iff.mp h
          dsimp only at h
          obtain ⟨l2, a2, h⟩ := Option.bind_eq_some_iff.mp h
          obtain ⟨⟨t2, m2⟩, b2, h⟩ := Option.bind_eq_some_iff.mp h
          dsimp only at h
          obtain ⟨z, a, h⟩ := Option.bind_eq_some_iff.mp h
          cases h
          obtain ⟨c1, d1, e1⟩ := pE_spec b1
          have a1 := at_eq a1
          obtain ⟨c2, d2, e2⟩ := pE_spec b2
          have a2 := at_eq a2
          have a := at_eq a
          refine ⟨?_, ?_, ?_⟩
          · show 40 :: q = nodT "either" [tE t1, tE t2] ++ r
            rw [nodT_eq, ← hq, a1, c1, a2, c2, a]
            simp [flt]
          · exact List.forall_mem_append.mpr ⟨d1, d2⟩
          · simp only [brE]
            omega
        rw [if_neg hw] at h
        by_cases hw : ws q = "often"
        · rw [if_pos hw] at h
          rw [ws_eq hw] at hq
          obtain ⟨l1, a1, h⟩ := Option.bind_eq_some_iff.mp h
          obtain ⟨⟨t1, m1⟩, b1, h⟩ := Option.bind_eq_some_iff.mp h
          dsimp only at h
          obtain ⟨z, a, h⟩ := Option.bind_eq_some_iff.mp h
          cases h
          obtain ⟨c1, d1, e1⟩ := pE_spec b1
          have a1 := at_eq a1
          have a := at_eq a
          refine ⟨?_, ?_, ?_⟩
          · show 40 :: q = nodT "often" [tE t1] ++ r
            rw [nodT_eq, ← hq, a1, c1, a]
            simp [flt]
          · exact d1
          · simp only [brE]
            omega
        rw [if_neg hw] at h
        cases h
    · have h : pEl l = some (t, r) := by cases e <;> (rw [pE, if_neg ho] at h; exact h)
      have hl : wd l ++ rs l = l := wd_rs l
      unfold pEl at h
      split at h
      · rename_i hw
        cases h
        rw [ws_eq hw] at hl
        exact ⟨hl.symm, (fun q m => nomatch m), by simp only [brE]; omega⟩
      · split at h
        · rename_i hw
          cases h
          refine ⟨?_, fun q m => ?_, by simp only [brE]; omega⟩
          · show l = L (ws l) ++ rs l
            rw [show L (ws l) = wd l by simp [ws, L]]
            exact hl.symm
          · rw [List.mem_singleton.mp m]
            exact nmB_ok hw
        · cases h
termination_by e => e
decreasing_by all_goals omega
theorem node1 {w : Str} {s1 s : Bool} {x : List Nat} (hK : (w, [s1], s) ∈ KS) (h : GG s1 x) : GG s (nodT w [x]) := .node hK rfl fun i h1 h2 => by
  match i, h1 with
  | 0, _ => exact h
theorem node2 {w : Str} {s1 s2 s : Bool} {x y : List Nat} (hK : (w, [s1, s2], s) ∈ KS) (h : GG s1 x) (k : GG s2 y) : GG s (nodT w [x, y]) := .node hK rfl fun i h1 h2 => by
  match i, h1 with
  | 0, _ => exact h
  | 1, _ => exact k
theorem node3 {w : Str} {s1 s2 s3 s : Bool} {x y z : List Nat} (hK : (w, [s1, s2, s3], s) ∈ KS) (h : GG s1 x) (k : GG s2 y) (j : GG s3 z) : GG s (nodT w [x, y, z]) := .node hK rfl fun i h1 h2 => by
  match i, h1 with
  | 0, _ => exact h
  | 1, _ => exact k
  | 2, _ => exact j
theorem lf_name {z : Str} (h : NmOk z) (s : Bool) : lf s (L z) := .inr (.inr (by rw [show (⟨(L z).toArray⟩ : Str) = z from str_L z]; exact nm_ok h))
theorem tT_gg : ∀ {t : Tst}, tok t → GG true (tT t)
  | .yes, _ => .leaf (.inl (.inl rfl))
  | .no, _ => .leaf (.inl (.inr rfl))
  | .ask q, h => .leaf (lf_name (h q (by simp [tns])) _)
  | .not t, h => node1 (by decide +kernel) (tT_gg (t := t) h)
  | .and a b, h => node2 (by decide +kernel) (tT_gg (t := a) fun q m => h q (List.mem_append_left _ m)) (tT_gg (t := b) fun q m => h q (List.mem_append_right _ m))
  | .or a b, h => node2 (by decide +kernel) (tT_gg (t := a) fun q m => h q (List.mem_append_left _ m)) (tT_gg (t := b) fun q m => h q (List.mem_append_right _ m))
theorem tE_gg : ∀ {t : Err}, eok t → GG false (tE t)
  | .done, _ => .leaf (.inl rfl)
  | .doo p, h => .leaf (lf_name (h p (by simp [ens])) _)
  | .often u, h => node1 (by decide +kernel) (tE_gg (t := u) h)
  | .whl t u, h => node2 (by decide +kernel) (tT_gg (t := t) fun q m => h q (List.mem_append_left _ m)) (tE_gg (t := u) fun q m => h q (List.mem_append_right _ m))
  | .thn u v, h => node2 (by decide +kernel) (tE_gg (t := u) fun q m => h q (List.mem_append_left _ m)) (tE_gg (t := v) fun q m => h q (List.mem_append_right _ m))
  | .eth u v, h => node2 (by decide +kernel) (tE_gg (t := u) fun q m => h q (List.mem_append_left _ m)) (tE_gg (t := v) fun q m => h q (List.mem_append_right _ m))
  | .iff t u v, h => node3 (by decide +kernel) (tT_gg (t := t) fun q m => h q (List.mem_append_left _ m)) (tE_gg (t := u) fun q m => h q (List.mem_append_right _ (List.mem_append_left _ m))) (tE_gg (t := v) fun q m => h q (List.mem_append_right _ (List.mem_append_right _ m)))
theorem nm_sc {z : Str} (h : NmOk z) : ∀ c ∈ L z, c ≠ 40 ∧ c ≠ 41 ∧ c ≠ 126 := fun c m => sg_sc (by rw [← lets_sg]; exact decide_eq_true (h.low c m))
/-- the scan passes a bracket -/
theorem sc_node {w : Str} {xs : List (List Nat)} {d : Int} {r : List Nat} (h0 : 0 ≤ d) (h1 : d + 1 ≤ 8) (hw : ∀ c ∈ L w, sgB c = true) (hx : ∀ x ∈ xs, ∀ q, sc (d + 1) (x ++ q) = sc (d + 1) q) : sc d (nodT w xs ++ r) = sc d r := by
  have hf : ∀ (xs : List (List Nat)) (q : List Nat), (∀ x ∈ xs, ∀ q, sc (d + 1) (x ++ q) = sc (d + 1) q) → sc (d + 1) (flt xs ++ q) = sc (d + 1) q := fun xs q => by
    induction xs with
    | nil => intro _; rfl
    | cons x xs ih =>
      intro hx
      rw [flt_cons, List.cons_append, sc_one ⟨by decide, by decide, by decide⟩ (by omega) h1, List.append_assoc, hx x (by simp)]
      exact ih fun y m => hx y (by simp [m])
  rw [nodT_eq, List.cons_append, sc_open h0, if_neg (by omega), List.append_assoc, sc_skip (by omega) h1 (fun c m => sg_sc (hw c m)), List.append_assoc, hf xs _ hx]
  show sc (d + 1) (41 :: r) = _
  rw [sc_shut h1, if_neg (by omega)]
  congr 1
  omega
theorem sc_tT : ∀ {t : Tst} {d : Int} {r : List Nat}, tok t → 0 ≤ d → d + t.deep ≤ 9 → sc d (tT t ++ r) = sc d r
  | .yes, _, _, _, h0, h1 => sc_skip h0 (by simp only [Tst.deep] at h1; omega) (by decide +kernel)
  | .no, _, _, _, h0, h1 => sc_skip h0 (by simp only [Tst.deep] at h1; omega) (by decide +kernel)
  | .ask q, _, _, h, h0, h1 => sc_skip h0 (by simp only [Tst.deep] at h1; omega) (nm_sc (h q (by simp [tns])))
  | .not t, d, r, h, h0, h1 => by
    simp only [Tst.deep] at h1
    have p := tst_pos t
    refine sc_node h0 (by omega) (by decide +kernel) fun x m q => ?_
    rw [List.mem_singleton.mp m]
    exact sc_tT (t := t) h (by omega) (by omega)
  | .and a b, d, r, h, h0, h1 => by
    simp only [Tst.deep] at h1
    have p := tst_pos a
    refine sc_node h0 (by omega) (by decide +kernel) fun x m q => ?_
    rcases List.mem_cons.mp m with e | m
    · rw [e]; exact sc_tT (t := a) (fun q m => h q (List.mem_append_left _ m)) (by omega) (by omega)
    · rw [List.mem_singleton.mp m]; exact sc_tT (t := b) (fun q m => h q (List.mem_append_right _ m)) (by omega) (by omega)
  | .or a b, d, r, h, h0, h1 => by
    simp only [Tst.deep] at h1
    have p := tst_pos a
    refine sc_node h0 (by omega) (by decide +kernel) fun x m q => ?_
    rcases List.mem_cons.mp m with e | m
    · rw [e]; exact sc_tT (t := a) (fun q m => h q (List.mem_append_left _ m)) (by omega) (by omega)
    · rw [List.mem_singleton.mp m]; exact sc_tT (t := b) (fun q m => h q (List.mem_append_right _ m)) (by omega) (by omega)
theorem sc_tE : ∀ {t : Err} {d : Int} {r : List Nat}, eok t → 0 ≤ d → d + brE t ≤ 8 → sc d (tE t ++ r) = sc d r
  | .done, _, _, _, h0, h1 => sc_skip h0 (by simp only [brE] at h1; omega) (by decide +kernel)
  | .doo q, _, _, h, h0, h1 => sc_skip h0 (by simp only [brE] at h1; omega) (nm_sc (h q (by simp [ens])))
  | .often u, d, r, h, h0, h1 => by
    simp only [brE] at h1
    refine sc_node h0 (by omega) (by decide +kernel) fun x m q => ?_
    rw [List.mem_singleton.mp m]
    exact sc_tE (t := u) h (by omega) (by omega)
  | .whl t u, d, r, h, h0, h1 => by
    simp only [brE] at h1
    refine sc_node h0 (by omega) (by decide +kernel) fun x m q => ?_
    rcases List.mem_cons.mp m with e | m
    · rw [e]; exact sc_tT (t := t) (fun q m => h q (List.mem_append_left _ m)) (by omega) (by omega)
    · rw [List.mem_singleton.mp m]; exact sc_tE (t := u) (fun q m => h q (List.mem_append_right _ m)) (by omega) (by omega)
  | .thn u v, d, r, h, h0, h1 => by
    simp only [brE] at h1
    refine sc_node h0 (by omega) (by decide +kernel) fun x m q => ?_
    rcases List.mem_cons.mp m with e | m
    · rw [e]; exact sc_tE (t := u) (fun q m => h q (List.mem_append_left _ m)) (by omega) (by omega)
    · rw [List.mem_singleton.mp m]; exact sc_tE (t := v) (fun q m => h q (List.mem_append_right _ m)) (by omega) (by omega)
  | .eth u v, d, r, h, h0, h1 => by
    simp only [brE] at h1
    refine sc_node h0 (by omega) (by decide +kernel) fun x m q => ?_
    rcases List.mem_cons.mp m with e | m
    · rw [e]; exact sc_tE (t := u) (fun q m => h q (List.mem_append_left _ m)) (by omega) (by omega)
    · rw [List.mem_singleton.mp m]; exact sc_tE (t := v) (fun q m => h q (List.mem_append_right _ m)) (by omega) (by omega)
  | .iff t u v, d, r, h, h0, h1 => by
    simp only [brE] at h1
    refine sc_node h0 (by omega) (by decide +kernel) fun x m q => ?_
    rcases List.mem_cons.mp m with e | m
    · rw [e]; exact sc_tT (t := t) (fun q m => h q (List.mem_append_left _ m)) (by omega) (by omega)
    · rcases List.mem_cons.mp m with e | m
      · rw [e]; exact sc_tE (t := u) (fun q m => h q (List.mem_append_right _ (List.mem_append_left _ m))) (by omega) (by omega)
      · rw [List.mem_singleton.mp m]; exact sc_tE (t := v) (fun q m => h q (List.mem_append_right _ (List.mem_append_right _ m))) (by omega) (by omega)
theorem wd_app : ∀ {w r : List Nat}, (∀ c ∈ w, ¬ stp c) → Stop r → wd (w ++ r) = w ∧ rs (w ++ r) = r
  | [], r, _, hr => by
    rcases hr with e | ⟨c, q, e, hc⟩
    · subst e
      exact ⟨rfl, rfl⟩
    · subst e
      unfold wd rs
      simp [hc]
  | c :: w, r, h, hr => by
    obtain ⟨h1, h2⟩ := wd_app (w := w) (fun c m => h c (List.mem_cons_of_mem _ m)) hr
    have hc := h c (by simp)
    unfold wd at h1
    unfold rs at h2
    unfold wd rs
    rw [List.cons_append, List.takeWhile_cons, List.dropWhile_cons, if_pos (by simpa using hc), if_pos (by simpa using hc), h1, h2]
    exact ⟨rfl, rfl⟩
theorem len2 {α : Type} {l : List α} (h : l.length = 2) : ∃ a b, l = [a, b] := by
  match l, h with
  | [a, b], _ => exact ⟨a, b, rfl⟩
theorem len3 {α : Type} {l : List α} (h : l.length = 3) : ∃ a b c, l = [a, b, c] := by
  match l, h with
  | [a, b, c], _ => exact ⟨a, b, c, rfl⟩
theorem sg_stp {c : Nat} (h : sgB c = true) : ¬ stp c := by
  unfold sgB at h
  simp only [Bool.and_eq_true, decide_eq_true_eq] at h
  unfold stp
  omega
def PS (s : Bool) (l : List Nat) : Prop := ∀ (e : Nat) (r : List Nat), e ≤ 8 → Stop r → sc (8 - (e : Int)) (l ++ r) = true →
  (s = true → ∃ t, pT e (l ++ r) = some (t, r)) ∧ (s = false → ∃ t, pE e (l ++ r) = some (t, r)) ∧ sc (8 - (e : Int)) r = true
theorem st32 {q : List Nat} : Stop (32 :: q) := .inr ⟨_, _, rfl, .inl rfl⟩
theorem st41 {q : List Nat} : Stop (41 :: q) := .inr ⟨_, _, rfl, .inr (.inr rfl)⟩
theorem gg_parse {s : Bool} {l : List Nat} (h : GG s l) : PS s l := by
  induction h with
  | @leaf s w h =>
    intro e r he hr hs
    have h126 : (126 : Nat) ∉ w := fun m => sc_126 hs (List.mem_append_left _ m)
    have hsg : ∀ c ∈ w, sgB c = true := by
      rcases lf_sg h with z | z
      · exact z
      · exact absurd (by rw [z]; cases s <;> simp [hole]) h126
    have hne : w ≠ [] := by
      intro e0
      subst e0
      unfold lf at h
      rcases h with z | z | z
      · cases s
        · exact absurd (show ([] : List Nat) = L "done" from z) (by decide +kernel)
        · rcases (show ([] : List Nat) = L "yes" ∨ ([] : List Nat) = L "no" from z) with z | z
          · exact absurd z (by decide +kernel)
          · exact absurd z (by decide +kernel)
      · cases s <;> cases z
      · exact absurd z (by decide +kernel)
    obtain ⟨h1, h2⟩ := wd_app (fun c m => sg_stp (hsg c m)) hr
    have ho : (w ++ r).head? ≠ some 40 := by
      obtain ⟨c, w', ew⟩ := List.exists_cons_of_ne_nil hne
      subst ew
      intro z
      have : c = 40 := by simpa using z
      exact (sg_sc (hsg c (by simp))).1 this
    have hz : ws (w ++ r) = ⟨w.toArray⟩ := by unfold ws; rw [h1]
    have hstr : ∀ {z : Str}, w = L z → ws (w ++ r) = z := fun {z} ez => by rw [hz, ez]; exact str_L z
    have hh : lf s w := h
    refine ⟨fun hs1 => ?_, fun hs1 => ?_, ?_⟩
    · subst hs1
      have E : pT e (w ++ r) = pTl (w ++ r) := by cases e <;> rw [pT, if_neg ho]
      rw [E]
      unfold pTl
      by_cases g1 : ws (w ++ r) = "yes"
      · exact ⟨_, by rw [if_pos g1, h2]⟩
      by_cases g2 : ws (w ++ r) = "no"
      · exact ⟨_, by rw [if_neg g1, if_pos g2, h2]⟩
      rw [if_neg g1, if_neg g2]
      rcases hh with z | z | z
      · rcases (show w = L "yes" ∨ w = L "no" from z) with z | z
        · exact absurd (hstr z) g1
        · exact absurd (hstr z) g2
      · exact absurd (by rw [z]; simp [hole]) h126
      · exact ⟨_, by rw [hz, if_pos z, h2]⟩
    · subst hs1
      have E : pE e (w ++ r) = pEl (w ++ r) := by cases e <;> rw [pE, if_neg ho]
      rw [E]
      unfold pEl
      by_cases g1 : ws (w ++ r) = "done"
      · exact ⟨_, by rw [if_pos g1, h2]⟩
      rw [if_neg g1]
      rcases hh with z | z | z
      · exact absurd (hstr (show w = L "done" from z)) g1
      · exact absurd (by rw [z]; simp [hole]) h126
      · exact ⟨_, by rw [hz, if_pos z, h2]⟩
    · rw [sc_skip (by omega) (by omega) (fun c m => sg_sc (hsg c m))] at hs
      exact hs
  | @node w ss s xs hK hl ha ih =>
    have hsw := ks_sg hK
    intro e r he hr hs
    simp only [KS, List.mem_cons, Prod.mk.injEq, List.not_mem_nil, or_false] at hK
    rcases hK with ⟨rfl, rfl, rfl⟩ | ⟨rfl, rfl, rfl⟩ | ⟨rfl, rfl, rfl⟩ | ⟨rfl, rfl, rfl⟩ | ⟨rfl, rfl, rfl⟩ | ⟨rfl, rfl, rfl⟩ | ⟨rfl, rfl, rfl⟩ | ⟨rfl, rfl, rfl⟩
    · obtain ⟨x, rfl⟩ := List.length_eq_one_iff.mp hl
      have i1 : PS true x := ih 0 (by decide) (by simp)
      have e1 : nodT "not" [x] ++ r = 40 :: (L "not" ++ (32 :: (x ++ (41 :: r)))) := by rw [nodT_eq]; simp [flt]
      rw [e1] at hs ⊢
      rw [sc_open (by omega)] at hs
      by_cases hd : (8 - (e : Int) + 1 > 8)
      · rw [if_pos hd] at hs
        cases hs
      rw [if_neg hd] at hs
      obtain ⟨e, rfl⟩ : ∃ k, e = k + 1 := ⟨e - 1, by omega⟩
      have hc : (8 : Int) - ((e + 1 : Nat) : Int) + 1 = 8 - (e : Int) := by omega
      rw [hc, sc_skip (by omega) (by omega) (fun c m => sg_sc (hsw c m)), sc_one ⟨by decide, by decide, by decide⟩ (by omega) (by omega)] at hs
      obtain ⟨jt0, je0, k0⟩ := i1 e (41 :: r) (by omega) st41 hs
      obtain ⟨t1, b1⟩ := jt0 rfl
      rw [sc_shut (by omega)] at k0
      by_cases hd2 : (8 - (e : Int) - 1 < 0)
      · rw [if_pos hd2] at k0
        cases k0
      rw [if_neg hd2] at k0
      have hc2 : (8 : Int) - (e : Int) - 1 = 8 - ((e + 1 : Nat) : Int) := by omega
      rw [hc2] at k0
      obtain ⟨w1, w2⟩ := wd_app (w := L "not") (r := 32 :: (x ++ (41 :: r))) (fun c m => sg_stp (hsw c m)) st32
      have hw : ws (L "not" ++ (32 :: (x ++ (41 :: r)))) = "not" := by unfold ws; rw [w1]; exact str_L _
      exact ⟨fun _ => ⟨.not t1, by
        rw [pT_open, if_pos hw, w2]
        simp [at_, b1]⟩, (fun z => nomatch z), k0⟩
    · obtain ⟨x, y, rfl⟩ := len2 hl
      have i1 : PS true x := ih 0 (by decide) (by simp)
      have i2 : PS true y := ih 1 (by decide) (by simp)
      have e1 : nodT "and" [x, y] ++ r = 40 :: (L "and" ++ (32 :: (x ++ (32 :: (y ++ (41 :: r)))))) := by rw [nodT_eq]; simp [flt]
      rw [e1] at hs ⊢
      rw [sc_open (by omega)] at hs
      by_cases hd : (8 - (e : Int) + 1 > 8)
      · rw [if_pos hd] at hs
        cases hs
      rw [if_neg hd] at hs
      obtain ⟨e, rfl⟩ : ∃ k, e = k + 1 := ⟨e - 1, by omega⟩
      have hc : (8 : Int) - ((e + 1 : Nat) : Int) + 1 = 8 - (e : Int) := by omega
      rw [hc, sc_skip (by omega) (by omega) (fun c m => sg_sc (hsw c m)), sc_one ⟨by decide, by decide, by decide⟩ (by omega) (by omega)] at hs
      obtain ⟨jt0, je0, k0⟩ := i1 e (32 :: (y ++ (41 :: r))) (by omega) st32 hs
      obtain ⟨t1, b1⟩ := jt0 rfl
      rw [sc_one ⟨by decide, by decide, by decide⟩ (by omega) (by omega)] at k0
      obtain ⟨jt1, je1, k1⟩ := i2 e (41 :: r) (by omega) st41 k0
      obtain ⟨t2, b2⟩ := jt1 rfl
      rw [sc_shut (by omega)] at k1
      by_cases hd2 : (8 - (e : Int) - 1 < 0)
      · rw [if_pos hd2] at k1
        cases k1
      rw [if_neg hd2] at k1
      have hc2 : (8 : Int) - (e : Int) - 1 = 8 - ((e + 1 : Nat) : Int) := by omega
      rw [hc2] at k1
      obtain ⟨w1, w2⟩ := wd_app (w := L "and") (r := 32 :: (x ++ (32 :: (y ++ (41 :: r))))) (fun c m => sg_stp (hsw c m)) st32
      have hw : ws (L "and" ++ (32 :: (x ++ (32 :: (y ++ (41 :: r)))))) = "and" := by unfold ws; rw [w1]; exact str_L _
      exact ⟨fun _ => ⟨.and t1 t2, by
        rw [pT_open, if_neg (by rw [hw]; decide +kernel), if_pos hw, w2]
        simp [at_, b1, b2]⟩, (fun z => nomatch z), k1⟩
    · obtain ⟨x, y, rfl⟩ := len2 hl
      have i1 : PS true x := ih 0 (by decide) (by simp)
      have i2 : PS true y := ih 1 (by decide) (by simp)
      have e1 : nodT "or" [x, y] ++ r = 40 :: (L "or" ++ (32 :: (x ++ (32 :: (y ++ (41 :: r)))))) := by rw [nodT_eq]; simp [flt]
      rw [e1] at hs ⊢
      rw [sc_open (by omega)] at hs
      by_cases hd : (8 - (e : Int) + 1 > 8)
      · rw [if_pos hd] at hs
        cases hs
      rw [if_neg hd] at hs
      obtain ⟨e, rfl⟩ : ∃ k, e = k + 1 := ⟨e - 1, by omega⟩
      have hc : (8 : Int) - ((e + 1 : Nat) : Int) + 1 = 8 - (e : Int) := by omega
      rw [hc, sc_skip (by omega) (by omega) (fun c m => sg_sc (hsw c m)), sc_one ⟨by decide, by decide, by decide⟩ (by omega) (by omega)] at hs
      obtain ⟨jt0, je0, k0⟩ := i1 e (32 :: (y ++ (41 :: r))) (by omega) st32 hs
      obtain ⟨t1, b1⟩ := jt0 rfl
      rw [sc_one ⟨by decide, by decide, by decide⟩ (by omega) (by omega)] at k0
      obtain ⟨jt1, je1, k1⟩ := i2 e (41 :: r) (by omega) st41 k0
      obtain ⟨t2, b2⟩ := jt1 rfl
      rw [sc_shut (by omega)] at k1
      by_cases hd2 : (8 - (e : Int) - 1 < 0)
      · rw [if_pos hd2] at k1
        cases k1
      rw [if_neg hd2] at k1
      have hc2 : (8 : Int) - (e : Int) - 1 = 8 - ((e + 1 : Nat) : Int) := by omega
      rw [hc2] at k1
      obtain ⟨w1, w2⟩ := wd_app (w := L "or") (r := 32 :: (x ++ (32 :: (y ++ (41 :: r))))) (fun c m => sg_stp (hsw c m)) st32
      have hw : ws (L "or" ++ (32 :: (x ++ (32 :: (y ++ (41 :: r)))))) = "or" := by unfold ws; rw [w1]; exact str_L _
      exact ⟨fun _ => ⟨.or t1 t2, by
        rw [pT_open, if_neg (by rw [hw]; decide +kernel), if_neg (by rw [hw]; decide +kernel), if_pos hw, w2]
        simp [at_, b1, b2]⟩, (fun z => nomatch z), k1⟩
    · obtain ⟨x, y, rfl⟩ := len2 hl
      have i1 : PS false x := ih 0 (by decide) (by simp)
      have i2 : PS false y := ih 1 (by decide) (by simp)
      have e1 : nodT "then" [x, y] ++ r = 40 :: (L "then" ++ (32 :: (x ++ (32 :: (y ++ (41 :: r)))))) := by rw [nodT_eq]; simp [flt]
      rw [e1] at hs ⊢
      rw [sc_open (by omega)] at hs
      by_cases hd : (8 - (e : Int) + 1 > 8)
      · rw [if_pos hd] at hs
        cases hs
      rw [if_neg hd] at hs
      obtain ⟨e, rfl⟩ : ∃ k, e = k + 1 := ⟨e - 1, by omega⟩
      have hc : (8 : Int) - ((e + 1 : Nat) : Int) + 1 = 8 - (e : Int) := by omega
      rw [hc, sc_skip (by omega) (by omega) (fun c m => sg_sc (hsw c m)), sc_one ⟨by decide, by decide, by decide⟩ (by omega) (by omega)] at hs
      obtain ⟨jt0, je0, k0⟩ := i1 e (32 :: (y ++ (41 :: r))) (by omega) st32 hs
      obtain ⟨t1, b1⟩ := je0 rfl
      rw [sc_one ⟨by decide, by decide, by decide⟩ (by omega) (by omega)] at k0
      obtain ⟨jt1, je1, k1⟩ := i2 e (41 :: r) (by omega) st41 k0
      obtain ⟨t2, b2⟩ := je1 rfl
      rw [sc_shut (by omega)] at k1
      by_cases hd2 : (8 - (e : Int) - 1 < 0)
      · rw [if_pos hd2] at k1
        cases k1
      rw [if_neg hd2] at k1
      have hc2 : (8 : Int) - (e : Int) - 1 = 8 - ((e + 1 : Nat) : Int) := by omega
      rw [hc2] at k1
      obtain ⟨w1, w2⟩ := wd_app (w := L "then") (r := 32 :: (x ++ (32 :: (y ++ (41 :: r))))) (fun c m => sg_stp (hsw c m)) st32
      have hw : ws (L "then" ++ (32 :: (x ++ (32 :: (y ++ (41 :: r)))))) = "then" := by unfold ws; rw [w1]; exact str_L _
      exact ⟨(fun z => nomatch z), fun _ => ⟨.thn t1 t2, by
        rw [pE_open, if_pos hw, w2]
        simp [at_, b1, b2]⟩, k1⟩
    · obtain ⟨x, y, rfl⟩ := len2 hl
      have i1 : PS false x := ih 0 (by decide) (by simp)
      have i2 : PS false y := ih 1 (by decide) (by simp)
      have e1 : nodT "either" [x, y] ++ r = 40 :: (L "either" ++ (32 :: (x ++ (32 :: (y ++ (41 :: r)))))) := by rw [nodT_eq]; simp [flt]
      rw [e1] at hs ⊢
      rw [sc_open (by omega)] at hs
      by_cases hd : (8 - (e : Int) + 1 > 8)
      · rw [if_pos hd] at hs
        cases hs
      rw [if_neg hd] at hs
      obtain ⟨e, rfl⟩ : ∃ k, e = k + 1 := ⟨e - 1, by omega⟩
      have hc : (8 : Int) - ((e + 1 : Nat) : Int) + 1 = 8 - (e : Int) := by omega
      rw [hc, sc_skip (by omega) (by omega) (fun c m => sg_sc (hsw c m)), sc_one ⟨by decide, by decide, by decide⟩ (by omega) (by omega)] at hs
      obtain ⟨jt0, je0, k0⟩ := i1 e (32 :: (y ++ (41 :: r))) (by omega) st32 hs
      obtain ⟨t1, b1⟩ := je0 rfl
      rw [sc_one ⟨by decide, by decide, by decide⟩ (by omega) (by omega)] at k0
      obtain ⟨jt1, je1, k1⟩ := i2 e (41 :: r) (by omega) st41 k0
      obtain ⟨t2, b2⟩ := je1 rfl
      rw [sc_shut (by omega)] at k1
      by_cases hd2 : (8 - (e : Int) - 1 < 0)
      · rw [if_pos hd2] at k1
        cases k1
      rw [if_neg hd2] at k1
      have hc2 : (8 : Int) - (e : Int) - 1 = 8 - ((e + 1 : Nat) : Int) := by omega
      rw [hc2] at k1
      obtain ⟨w1, w2⟩ := wd_app (w := L "either") (r := 32 :: (x ++ (32 :: (y ++ (41 :: r))))) (fun c m => sg_stp (hsw c m)) st32
      have hw : ws (L "either" ++ (32 :: (x ++ (32 :: (y ++ (41 :: r)))))) = "either" := by unfold ws; rw [w1]; exact str_L _
      exact ⟨(fun z => nomatch z), fun _ => ⟨.eth t1 t2, by
        rw [pE_open, if_neg (by rw [hw]; decide +kernel), if_neg (by rw [hw]; decide +kernel), if_neg (by rw [hw]; decide +kernel), if_pos hw, w2]
        simp [at_, b1, b2]⟩, k1⟩
    · obtain ⟨x, y, z, rfl⟩ := len3 hl
      have i1 : PS true x := ih 0 (by decide) (by simp)
      have i2 : PS false y := ih 1 (by decide) (by simp)
      have i3 : PS false z := ih 2 (by decide) (by simp)
      have e1 : nodT "if" [x, y, z] ++ r = 40 :: (L "if" ++ (32 :: (x ++ (32 :: (y ++ (32 :: (z ++ (41 :: r)))))))) := by rw [nodT_eq]; simp [flt]
      rw [e1] at hs ⊢
      rw [sc_open (by omega)] at hs
      by_cases hd : (8 - (e : Int) + 1 > 8)
      · rw [if_pos hd] at hs
        cases hs
      rw [if_neg hd] at hs
      obtain ⟨e, rfl⟩ : ∃ k, e = k + 1 := ⟨e - 1, by omega⟩
      have hc : (8 : Int) - ((e + 1 : Nat) : Int) + 1 = 8 - (e : Int) := by omega
      rw [hc, sc_skip (by omega) (by omega) (fun c m => sg_sc (hsw c m)), sc_one ⟨by decide, by decide, by decide⟩ (by omega) (by omega)] at hs
      obtain ⟨jt0, je0, k0⟩ := i1 e (32 :: (y ++ (32 :: (z ++ (41 :: r))))) (by omega) st32 hs
      obtain ⟨t1, b1⟩ := jt0 rfl
      rw [sc_one ⟨by decide, by decide, by decide⟩ (by omega) (by omega)] at k0
      obtain ⟨jt1, je1, k1⟩ := i2 e (32 :: (z ++ (41 :: r))) (by omega) st32 k0
      obtain ⟨t2, b2⟩ := je1 rfl
      rw [sc_one ⟨by decide, by decide, by decide⟩ (by omega) (by omega)] at k1
      obtain ⟨jt2, je2, k2⟩ := i3 e (41 :: r) (by omega) st41 k1
      obtain ⟨t3, b3⟩ := je2 rfl
      rw [sc_shut (by omega)] at k2
      by_cases hd2 : (8 - (e : Int) - 1 < 0)
      · rw [if_pos hd2] at k2
        cases k2
      rw [if_neg hd2] at k2
      have hc2 : (8 : Int) - (e : Int) - 1 = 8 - ((e + 1 : Nat) : Int) := by omega
      rw [hc2] at k2
      obtain ⟨w1, w2⟩ := wd_app (w := L "if") (r := 32 :: (x ++ (32 :: (y ++ (32 :: (z ++ (41 :: r))))))) (fun c m => sg_stp (hsw c m)) st32
      have hw : ws (L "if" ++ (32 :: (x ++ (32 :: (y ++ (32 :: (z ++ (41 :: r)))))))) = "if" := by unfold ws; rw [w1]; exact str_L _
      exact ⟨(fun z => nomatch z), fun _ => ⟨.iff t1 t2 t3, by
        rw [pE_open, if_neg (by rw [hw]; decide +kernel), if_pos hw, w2]
        simp [at_, b1, b2, b3]⟩, k2⟩
    · obtain ⟨x, y, rfl⟩ := len2 hl
      have i1 : PS true x := ih 0 (by decide) (by simp)
      have i2 : PS false y := ih 1 (by decide) (by simp)
      have e1 : nodT "while" [x, y] ++ r = 40 :: (L "while" ++ (32 :: (x ++ (32 :: (y ++ (41 :: r)))))) := by rw [nodT_eq]; simp [flt]
      rw [e1] at hs ⊢
      rw [sc_open (by omega)] at hs
      by_cases hd : (8 - (e : Int) + 1 > 8)
      · rw [if_pos hd] at hs
        cases hs
      rw [if_neg hd] at hs
      obtain ⟨e, rfl⟩ : ∃ k, e = k + 1 := ⟨e - 1, by omega⟩
      have hc : (8 : Int) - ((e + 1 : Nat) : Int) + 1 = 8 - (e : Int) := by omega
      rw [hc, sc_skip (by omega) (by omega) (fun c m => sg_sc (hsw c m)), sc_one ⟨by decide, by decide, by decide⟩ (by omega) (by omega)] at hs
      obtain ⟨jt0, je0, k0⟩ := i1 e (32 :: (y ++ (41 :: r))) (by omega) st32 hs
      obtain ⟨t1, b1⟩ := jt0 rfl
      rw [sc_one ⟨by decide, by decide, by decide⟩ (by omega) (by omega)] at k0
      obtain ⟨jt1, je1, k1⟩ := i2 e (41 :: r) (by omega) st41 k0
      obtain ⟨t2, b2⟩ := je1 rfl
      rw [sc_shut (by omega)] at k1
      by_cases hd2 : (8 - (e : Int) - 1 < 0)
      · rw [if_pos hd2] at k1
        cases k1
      rw [if_neg hd2] at k1
      have hc2 : (8 : Int) - (e : Int) - 1 = 8 - ((e + 1 : Nat) : Int) := by omega
      rw [hc2] at k1
      obtain ⟨w1, w2⟩ := wd_app (w := L "while") (r := 32 :: (x ++ (32 :: (y ++ (41 :: r))))) (fun c m => sg_stp (hsw c m)) st32
      have hw : ws (L "while" ++ (32 :: (x ++ (32 :: (y ++ (41 :: r)))))) = "while" := by unfold ws; rw [w1]; exact str_L _
      exact ⟨(fun z => nomatch z), fun _ => ⟨.whl t1 t2, by
        rw [pE_open, if_neg (by rw [hw]; decide +kernel), if_neg (by rw [hw]; decide +kernel), if_pos hw, w2]
        simp [at_, b1, b2]⟩, k1⟩
    · obtain ⟨x, rfl⟩ := List.length_eq_one_iff.mp hl
      have i1 : PS false x := ih 0 (by decide) (by simp)
      have e1 : nodT "often" [x] ++ r = 40 :: (L "often" ++ (32 :: (x ++ (41 :: r)))) := by rw [nodT_eq]; simp [flt]
      rw [e1] at hs ⊢
      rw [sc_open (by omega)] at hs
      by_cases hd : (8 - (e : Int) + 1 > 8)
      · rw [if_pos hd] at hs
        cases hs
      rw [if_neg hd] at hs
      obtain ⟨e, rfl⟩ : ∃ k, e = k + 1 := ⟨e - 1, by omega⟩
      have hc : (8 : Int) - ((e + 1 : Nat) : Int) + 1 = 8 - (e : Int) := by omega
      rw [hc, sc_skip (by omega) (by omega) (fun c m => sg_sc (hsw c m)), sc_one ⟨by decide, by decide, by decide⟩ (by omega) (by omega)] at hs
      obtain ⟨jt0, je0, k0⟩ := i1 e (41 :: r) (by omega) st41 hs
      obtain ⟨t1, b1⟩ := je0 rfl
      rw [sc_shut (by omega)] at k0
      by_cases hd2 : (8 - (e : Int) - 1 < 0)
      · rw [if_pos hd2] at k0
        cases k0
      rw [if_neg hd2] at k0
      have hc2 : (8 : Int) - (e : Int) - 1 = 8 - ((e + 1 : Nat) : Int) := by omega
      rw [hc2] at k0
      obtain ⟨w1, w2⟩ := wd_app (w := L "often") (r := 32 :: (x ++ (41 :: r))) (fun c m => sg_stp (hsw c m)) st32
      have hw : ws (L "often" ++ (32 :: (x ++ (41 :: r)))) = "often" := by unfold ws; rw [w1]; exact str_L _
      exact ⟨(fun z => nomatch z), fun _ => ⟨.often t1, by
        rw [pE_open, if_neg (by rw [hw]; decide +kernel), if_neg (by rw [hw]; decide +kernel), if_neg (by rw [hw]; decide +kernel), if_neg (by rw [hw]; decide +kernel), if_pos hw, w2]
        simp [at_, b1]⟩, k0⟩
/-- a test's text -/
theorem told_T {l : List Nat} : (sc 0 l = true ∧ GG true l) ↔ ∃ t, pT 8 l = some (t, []) := by
  constructor
  · rintro ⟨h1, h2⟩
    obtain ⟨h3, _, _⟩ := gg_parse h2 8 [] (by decide) (.inl rfl) (by rw [List.append_nil]; exact h1)
    rw [List.append_nil] at h3
    exact h3 rfl
  · rintro ⟨t, h⟩
    obtain ⟨h1, h2, h3⟩ := pT_spec h
    rw [List.append_nil] at h1
    subst h1
    have := sc_tT (t := t) (d := 0) (r := []) h2 (by decide) (by omega)
    rw [List.append_nil] at this
    exact ⟨this, tT_gg h2⟩
theorem told_E {l : List Nat} : (sc 0 l = true ∧ GG false l) ↔ ∃ t, pE 8 l = some (t, []) := by
  constructor
  · rintro ⟨h1, h2⟩
    obtain ⟨_, h3, _⟩ := gg_parse h2 8 [] (by decide) (.inl rfl) (by rw [List.append_nil]; exact h1)
    rw [List.append_nil] at h3
    exact h3 rfl
  · rintro ⟨t, h⟩
    obtain ⟨h1, h2, h3⟩ := pE_spec h
    rw [List.append_nil] at h1
    subst h1
    have := sc_tE (t := t) (d := 0) (r := []) h2 (by decide) (by omega)
    rw [List.append_nil] at this
    exact ⟨this, tE_gg h2⟩
end G
namespace G
open PySem PySem.Spec L2 Z
theorem tak_eq : takenS = taknS := rfl
theorem fw_lisName {w : Str} (hw : w.length ≤ 100000) {A : O → List O → Prop} {B : Exn → Prop} (k : A (.d (.bool (nmB w))) [.d (.str w)]) : FW (f_law_is_name [.d (.str w)]) A B := by
  have hs : (signs w).length = w.length := by simp [signs, Str.length]
  refine fwRun ?_
  unfold g_law_is_name
  bv_omega
  rw [tak_eq]
  have no : ¬ (0 < w.length ∧ w.length ≤ 5) → nmB w = false := fun h => by unfold nmB; rw [decide_eq_false h]; rfl
  refine IfK.dec (fun h3 => ?_) (fun h3 => ?_)
  · have e : nmB w = false := by unfold nmB; rw [decide_eq_true h3]; simp
    rw [e] at k
    bv_omega
    exact k
  bv_omega
  refine IfK.dec (fun h1 => ?_) (fun h1 => ?_)
  · bv_omega
    refine IfK.dec (fun h2 => ?_) (fun h2 => ?_)
    · have h5 : 0 < w.length ∧ w.length ≤ 5 := by omega
      bv_omega
      rw [sg_signs]
      refine wp_lcF (fun c => PyData.str ⟨#[c]⟩) (fun c => .d (.bool (sgB c))) (fun c hc => ?_) ?_
      · bv_omega
        refine in_ch (neg := false) ?_
        rw [show (if false = true then !decide (c ∈ ("abcdefghijklmnopqrstuvwxyz" : Str).cps.toList) else decide (c ∈ ("abcdefghijklmnopqrstuvwxyz" : Str).cps.toList)) = sgB c from lets_sg c]
        bv_omega
        trivial
      rw [List.nil_append, blsR]
      bv_omega
      rw [List.all_map]
      have e : nmB w = w.cps.toList.all sgB := by unfold nmB; rw [decide_eq_false h3, decide_eq_true h5]; rfl
      rw [e] at k
      exact k
    · rw [no (by omega)] at k
      bv_omega
      exact k
  · rw [no (by omega)] at k
    bv_omega
    exact k
def sS (s : Bool) : Str := if s = true then "t" else "e"
def lfB (s : Bool) (z : Str) : Bool := (if s = true then decide (z = "yes" ∨ z = "no" ∨ z = "~t") else decide (z = "done" ∨ z = "~e")) || nmB z
theorem L_inj {a b : Str} (h : L a = L b) : a = b := str_ext h
theorem lfB_iff (s : Bool) (z : Str) : lfB s z = true ↔ lf s (L z) := by
  have e0 : (⟨(L z).toArray⟩ : Str) = z := str_L z
  have ey : z = "yes" ↔ L z = L "yes" := ⟨fun e => by rw [e], L_inj⟩
  have en : z = "no" ↔ L z = L "no" := ⟨fun e => by rw [e], L_inj⟩
  have ed : z = "done" ↔ L z = L "done" := ⟨fun e => by rw [e], L_inj⟩
  have et : z = "~t" ↔ L z = hole true := ⟨fun e => by rw [e]; decide +kernel, fun e => L_inj (e.trans (by decide +kernel))⟩
  have ee : z = "~e" ↔ L z = hole false := ⟨fun e => by rw [e]; decide +kernel, fun e => L_inj (e.trans (by decide +kernel))⟩
  unfold lfB lf
  rw [e0]
  cases s with
  | true => simp only [if_true, Bool.or_eq_true, decide_eq_true_eq, ey, en, et, or_assoc]
  | false => simp only [Bool.false_eq_true, if_false, Bool.or_eq_true, decide_eq_true_eq, ed, ee, or_assoc]
theorem fw_lisPart {w : Str} {s : Bool} (hw : w.length ≤ 100000) {A : O → List O → Prop} {B : Exn → Prop} (k : A (.d (.bool (lfB s w))) [.d (.str w), .d (.str (sS s))]) : FW (f_law_is_part [.d (.str w), .d (.str (sS s))]) A B := by
  refine fwRun ?_
  unfold g_law_is_part
  cases s with
  | true =>
    rw [show sS true = "t" from rfl] at k ⊢
    bv_omega
    refine IfK.dec (fun h => ?_) (fun h => ?_)
    · have e : lfB true w = true := by
        simp only [List.mem_cons, List.not_mem_nil, or_false] at h
        unfold lfB
        rw [if_pos rfl, decide_eq_true h]
        rfl
      rw [e] at k
      bv_omega
      exact k
    · have e : lfB true w = nmB w := by
        simp only [List.mem_cons, List.not_mem_nil, or_false] at h
        unfold lfB
        rw [if_pos rfl, decide_eq_false h]
        rfl
      rw [e] at k
      bv_omega
      refine fw_lisName hw ?_
      bv_omega
      exact k
  | false =>
    rw [show sS false = "e" from rfl] at k ⊢
    bv_omega
    refine IfK.dec (fun h => ?_) (fun h => ?_)
    · have e : lfB false w = true := by
        simp only [List.mem_cons, List.not_mem_nil, or_false] at h
        unfold lfB
        rw [if_neg (by decide), decide_eq_true h]
        rfl
      rw [e] at k
      bv_omega
      exact k
    · have e : lfB false w = nmB w := by
        simp only [List.mem_cons, List.not_mem_nil, or_false] at h
        unfold lfB
        rw [if_neg (by decide), decide_eq_false h]
        rfl
      rw [e] at k
      bv_omega
      refine fw_lisName hw ?_
      bv_omega
      exact k
theorem join_L2 (sep : Str) (w : Str) (r : List Str) : L (Txt.join sep (w :: r)) = L w ++ r.flatMap fun p => L sep ++ L p := glu_L sep r _
theorem join_flt (w : Str) (r : List Str) : L (Txt.join " " (w :: r)) = L w ++ flt (r.map L) := by
  rw [join_L2]
  unfold flt
  rw [List.flatMap_map]
  rfl
theorem words_of : ∀ l : List Nat, ∃ (w0 : Str) (wr : List Str), (∀ x ∈ w0 :: wr, (32 : Nat) ∉ L x) ∧ l = L w0 ++ flt (wr.map L)
  | [] => ⟨"", [], fun x m => by rw [List.mem_singleton.mp m]; decide +kernel, rfl⟩
  | c :: r => by
    obtain ⟨w0, wr, h1, h2⟩ := words_of r
    by_cases hc : c = 32
    · refine ⟨"", w0 :: wr, fun x m => ?_, ?_⟩
      · rcases List.mem_cons.mp m with e | m
        · rw [e]; decide +kernel
        · exact h1 x m
      · rw [List.map_cons, flt_cons, ← h2, hc]
        rfl
    · refine ⟨⟨(c :: L w0).toArray⟩, wr, fun x m => ?_, ?_⟩
      · rcases List.mem_cons.mp m with e | m
        · rw [e]
          intro z
          have z : (32 : Nat) ∈ c :: L w0 := by simpa [L] using z
          rcases List.mem_cons.mp z with e | z
          · exact hc e.symm
          · exact h1 w0 (by simp) z
        · exact h1 x (List.mem_cons_of_mem _ m)
      · rw [h2]
        simp [L]
theorem flt_len : ∀ (wr : List Str), wr.length ≤ (flt (wr.map L)).length ∧ ∀ x ∈ wr, (L x).length ≤ (flt (wr.map L)).length
  | [] => ⟨Nat.le_refl _, fun x m => nomatch m⟩
  | y :: r => by
    obtain ⟨h1, h2⟩ := flt_len r
    rw [List.map_cons, flt_cons, List.length_cons, List.length_cons, List.length_append]
    refine ⟨by omega, fun x m => ?_⟩
    rcases List.mem_cons.mp m with e | m
    · rw [e]; omega
    · have := h2 x m; omega
theorem split_words (z : Str) : ∃ (w0 : Str) (wr : List Str), (∀ x ∈ w0 :: wr, (32 : Nat) ∉ L x) ∧ L z = L w0 ++ flt (wr.map L) ∧ Txt.split z " " = w0 :: wr ∧ wr.length ≤ z.length ∧ ∀ x ∈ w0 :: wr, x.length ≤ z.length := by
  obtain ⟨w0, wr, h1, h2⟩ := words_of (L z)
  have e : z = Txt.join " " (w0 :: wr) := L_inj (by rw [join_flt]; exact h2)
  have hl : z.length = (L w0).length + (flt (wr.map L)).length := by
    rw [← List.length_append, ← h2]
    simp [L, Str.length]
  obtain ⟨g1, g2⟩ := flt_len wr
  refine ⟨w0, wr, h1, h2, ?_, by omega, fun x m => ?_⟩
  · conv => lhs; rw [e]
    exact TL.split_join (y := " ") (s := 32) (S := []) rfl (by decide +kernel) (by simp) h1
  · have hx : x.length = (L x).length := by simp [L, Str.length]
    rcases List.mem_cons.mp m with e | m
    · rw [← e] at hl; omega
    · have := g2 x m; omega
def dueO : List (Key × O) := [(.inr "not", .d (.str "t")), (.inr "and", .d (.str "tt")), (.inr "or", .d (.str "tt")), (.inr "then", .d (.str "ee")), (.inr "either", .d (.str "ee")), (.inr "if", .d (.str "tee")), (.inr "while", .d (.str "te")), (.inr "often", .d (.str "e"))]
theorem words_eq : ∀ {ps qs : List (List Nat)} {p q : List Nat}, p ++ flt ps = q ++ flt qs → (∀ x ∈ p :: ps, (32 : Nat) ∉ x) → (∀ x ∈ q :: qs, (32 : Nat) ∉ x) → p = q ∧ ps = qs
  | [], [], p, q, h, _, _ => ⟨by simpa [flt] using h, rfl⟩
  | [], y :: qs, p, q, h, h1, _ => by
    rw [flt_cons, show flt [] = [] from rfl, List.append_nil] at h
    exact absurd (by rw [h]; simp) (h1 p (by simp))
  | x :: ps, [], p, q, h, _, h2 => by
    rw [flt_cons, show flt [] = [] from rfl, List.append_nil] at h
    exact absurd (by rw [← h]; simp) (h2 q (by simp))
  | x :: ps, y :: qs, p, q, h, h1, h2 => by
    rw [flt_cons, flt_cons] at h
    obtain ⟨e1, e2⟩ := first_eq h (h1 p (by simp)) (h2 q (by simp))
    obtain ⟨e3, e4⟩ := words_eq e2 (fun z m => h1 z (List.mem_cons_of_mem _ m)) (fun z m => h2 z (List.mem_cons_of_mem _ m))
    exact ⟨e1, by rw [e3, e4]⟩
theorem ks_fun {w : Str} {ss ss' : List Bool} {s s' : Bool} (h : (w, ss, s) ∈ KS) (k : (w, ss', s') ∈ KS) : ss = ss' ∧ s = s' := by
  simp only [KS, List.mem_cons, Prod.mk.injEq, List.not_mem_nil, or_false] at h k
  rcases h with ⟨rfl, rfl, rfl⟩ | ⟨rfl, rfl, rfl⟩ | ⟨rfl, rfl, rfl⟩ | ⟨rfl, rfl, rfl⟩ | ⟨rfl, rfl, rfl⟩ | ⟨rfl, rfl, rfl⟩ | ⟨rfl, rfl, rfl⟩ | ⟨rfl, rfl, rfl⟩ <;>
  rcases k with ⟨e, rfl, rfl⟩ | ⟨e, rfl, rfl⟩ | ⟨e, rfl, rfl⟩ | ⟨e, rfl, rfl⟩ | ⟨e, rfl, rfl⟩ | ⟨e, rfl, rfl⟩ | ⟨e, rfl, rfl⟩ | ⟨e, rfl, rfl⟩ <;>
  first | exact ⟨rfl, rfl⟩ | exact absurd e (by decide +kernel)
/-- what a bracket's words must be -/
theorem br_words {z w0 : Str} {wr : List Str} {s : Bool} (h1 : ∀ x ∈ w0 :: wr, (32 : Nat) ∉ L x) (h2 : L z = L w0 ++ flt (wr.map L)) (hb : BR (L z) s) : ∃ ss, (w0, ss, s) ∈ KS ∧ wr.length = ss.length ∧ ∀ i (g1 : i < ss.length) (g2 : i < wr.length), lf ss[i] (L wr[i]) := by
  obtain ⟨w, ss, xs, hK, hl, ha, e⟩ := hb
  rw [h2] at e
  obtain ⟨e1, e2⟩ := words_eq e (fun x m => by
    rcases List.mem_cons.mp m with e | m
    · rw [e]; exact h1 w0 (by simp)
    · obtain ⟨y, hy, rfl⟩ := List.mem_map.mp m
      exact h1 y (List.mem_cons_of_mem _ hy)) (fun x m => by
    rcases List.mem_cons.mp m with e | m
    · rw [e]; exact ks_no hK (.inr (.inr (.inl rfl)))
    · obtain ⟨i, hi, rfl⟩ := List.getElem_of_mem m
      exact lf_no (ha i (by omega) hi) (.inr (.inr rfl)))
  have ew : w0 = w := L_inj e1
  subst ew
  subst e2
  refine ⟨ss, hK, by simpa using hl, fun i g1 g2 => ?_⟩
  have := ha i g1 (by simpa using g2)
  simpa using this
theorem due_none {w0 : Str} (h : ∀ k ∈ KS, k.1 ≠ w0) : lkO (.dK dueO) (.inl (.inr w0)) = some none := by
  have n1 := h ("not", [true], true) (by decide +kernel)
  have n2 := h ("and", [true, true], true) (by decide +kernel)
  have n3 := h ("or", [true, true], true) (by decide +kernel)
  have n4 := h ("then", [false, false], false) (by decide +kernel)
  have n5 := h ("either", [false, false], false) (by decide +kernel)
  have n6 := h ("if", [true, false, false], false) (by decide +kernel)
  have n7 := h ("while", [true, false], false) (by decide +kernel)
  have n8 := h ("often", [false], false) (by decide +kernel)
  show some (lkD dueO (.inr w0)) = some none
  congr 1
  unfold lkD
  cases e : fix1 (dueO.map (·.1)) (Sum.inr w0 : Key) with
  | none => rfl
  | some j =>
    have m := List.mem_of_getElem? (fix1_some e).1
    simp only [dueO, List.map_cons, List.map_nil, List.mem_cons, Sum.inr.injEq, List.not_mem_nil, or_false] at m
    rcases m with m | m | m | m | m | m | m | m
    · exact absurd m.symm n1
    · exact absurd m.symm n2
    · exact absurd m.symm n3
    · exact absurd m.symm n4
    · exact absurd m.symm n5
    · exact absurd m.symm n6
    · exact absurd m.symm n7
    · exact absurd m.symm n8
theorem ks_len {w : Str} {ss : List Bool} {s : Bool} (h : (w, ss, s) ∈ KS) : ss.length ≤ 3 := by
  have : ∀ k ∈ KS, k.2.1.length ≤ 3 := by decide +kernel
  exact this _ h
theorem due_some {w0 : Str} {ss : List Bool} {s : Bool} (h : (w0, ss, s) ∈ KS) : ∃ due : Str, lkO (.dK dueO) (.inl (.inr w0)) = some (some (.d (.str due))) ∧ due ≠ "" ∧ due.length = ss.length ∧ signs due = ss.map (fun s => PyData.str (sS s)) ∧ (w0 ∈ (["not", "and", "or"] : List Str) ↔ s = true) := by
  simp only [KS, List.mem_cons, Prod.mk.injEq, List.not_mem_nil, or_false] at h
  rcases h with ⟨rfl, rfl, rfl⟩ | ⟨rfl, rfl, rfl⟩ | ⟨rfl, rfl, rfl⟩ | ⟨rfl, rfl, rfl⟩ | ⟨rfl, rfl, rfl⟩ | ⟨rfl, rfl, rfl⟩ | ⟨rfl, rfl, rfl⟩ | ⟨rfl, rfl, rfl⟩
  · exact ⟨"t", by with_unfolding_all rfl, by decide +kernel, by decide +kernel, by with_unfolding_all rfl, by decide +kernel⟩
  · exact ⟨"tt", by with_unfolding_all rfl, by decide +kernel, by decide +kernel, by with_unfolding_all rfl, by decide +kernel⟩
  · exact ⟨"tt", by with_unfolding_all rfl, by decide +kernel, by decide +kernel, by with_unfolding_all rfl, by decide +kernel⟩
  · exact ⟨"ee", by with_unfolding_all rfl, by decide +kernel, by decide +kernel, by with_unfolding_all rfl, by decide +kernel⟩
  · exact ⟨"ee", by with_unfolding_all rfl, by decide +kernel, by decide +kernel, by with_unfolding_all rfl, by decide +kernel⟩
  · exact ⟨"tee", by with_unfolding_all rfl, by decide +kernel, by decide +kernel, by with_unfolding_all rfl, by decide +kernel⟩
  · exact ⟨"te", by with_unfolding_all rfl, by decide +kernel, by decide +kernel, by with_unfolding_all rfl, by decide +kernel⟩
  · exact ⟨"e", by with_unfolding_all rfl, by decide +kernel, by decide +kernel, by with_unfolding_all rfl, by decide +kernel⟩
theorem fw_lbracket {z : Str} (hz : z.length ≤ 100000) {A : O → List O → Prop} {B : Exn → Prop} (k1 : ∀ s (p : Str), BR (L z) s → L p = hole s → A (.d (.str p)) [.d (.str z)]) (k2 : (∀ s, ¬ BR (L z) s) → A (.d (.str "")) [.d (.str z)]) : FW (f_law_bracket [.d (.str z)]) A B := by
  obtain ⟨w0, wr, h1, h2, h3, h4, h5⟩ := split_words z
  refine fwRun ?_
  unfold g_law_bracket
  bv_omega
  refine ⟨⟨by decide +kernel, by omega⟩, ?_⟩
  rw [h3]
  have e0 : ((w0 :: wr).map fun t => O.d (.str t)) = .d (.str w0) :: ((wr.map PyData.str).map O.d) := by rw [List.map_cons, List.map_map]; rfl
  rw [e0]
  bv_omega
  refine ⟨rfl, ?_⟩
  bv_omega
  refine ⟨_, rfl, fun a => ?_⟩
  bv_omega
  refine ⟨rfl, ?_⟩
  refine ⟨.gK [(.inr "while", .str "te"), (.inr "often", .str "e")], by with_unfolding_all rfl, ?_⟩
  refine ⟨_, rfl, rfl, by decide, ?_⟩
  generalize hG : setPl (setPl _ 2 [] (O.hole a)) 2 [] _ = G
  obtain rfl : [some (.d (.str z)), some (.lst (.d (.str w0) :: ((wr.map PyData.str).map O.d))), some (.dK dueO), none, none, none] = G := by rw [← hG]; with_unfolding_all rfl
  clear hG
  bv_omega
  refine ⟨rfl, ?_⟩
  bv_omega
  by_cases hk : ∃ ss s, (w0, ss, s) ∈ KS
  · obtain ⟨ss, s, hK⟩ := hk
    obtain ⟨due, d1, d2, d3, d4, d5⟩ := due_some hK
    refine ⟨.str w0, .inl (.inr w0), _, rfl, rfl, d1, GetR.so rfl ?_⟩
    bv_omega
    refine IfK.df d2 ?_
    bv_omega
    have hss := ks_len hK
    refine ⟨by omega, ?_⟩
    bv_omega
    have hrow : (.d (.str w0) :: ((wr.map PyData.str).map O.d) : List O).length = wr.length + 1 := by simp
    refine IfK.mk (fun hl => ?_) (fun hl => ?_)
    · have hl2 : wr.length = ss.length := by
        have := of_decide_eq_true hl
        simp only [List.length_cons, List.length_map] at this
        omega
      have ezip : zpD (wr.map PyData.str) (signs due) = (wr.zip ss).map fun p => PyData.tuple [.str p.1, .str (sS p.2)] := by
        rw [d4]
        clear hl hrow d4 d5 d3 d2 d1 hK hl2 e0 h1 h2 h3 h4 h5 hss
        induction wr generalizing ss with
        | nil => cases ss <;> rfl
        | cons x r ih =>
          cases ss with
          | nil => rfl
          | cons b bs => rw [List.map_cons, List.map_cons, zpD, ih, List.zip_cons_cons, List.map_cons]
      have hrow2 : ((wr.map PyData.str).map O.d).length ≤ 3 := by simp only [List.length_map]; omega
      bv_omega
      rw [ezip]
      refine ⟨by rw [List.length_map, List.length_zip]; omega, ?_⟩
      bv_omega
      refine wp_lcF (fun (p : Str × Bool) => PyData.tuple [.str p.1, .str (sS p.2)]) (fun p => .d (.bool (lfB p.2 p.1))) (fun p hp => ?_) ?_
      · bv_omega
        refine fw_lisPart (Nat.le_trans (h5 p.1 (List.mem_cons_of_mem _ (List.of_mem_zip hp).1)) hz) ?_
        bv_omega
        trivial
      rw [List.nil_append, show ((wr.zip ss).map fun p => O.d (.bool (lfB p.2 p.1))) = (((wr.zip ss).map fun p => lfB p.2 p.1).map PyData.bool).map O.d by rw [List.map_map, List.map_map]; rfl]
      bv_omega
      refine IfK.mk (fun ha => ?_) (fun ha => ?_)
      · have hlf : ∀ i (g1 : i < ss.length) (g2 : i < wr.length), lf ss[i] (L wr[i]) := fun i g1 g2 => by
          rw [← lfB_iff]
          have m : (wr[i], ss[i]) ∈ wr.zip ss := by
            rw [List.mem_iff_getElem]
            exact ⟨i, by rw [List.length_zip]; omega, List.getElem_zip⟩
          have := List.all_eq_true.mp ha _ (List.mem_map_of_mem (f := fun p : Str × Bool => lfB p.2 p.1) m)
          exact this
        have hb : BR (L z) s := ⟨w0, ss, wr.map L, hK, by rw [List.length_map]; exact hl2, fun i g1 g2 => by
          have := hlf i g1 (by simpa using g2)
          simpa using this, h2⟩
        have ed : decide (w0 ∈ (["not", "and", "or"] : List Str)) = s := by
          rw [Bool.eq_iff_iff, decide_eq_true_iff]
          exact d5
        bv_omega
        rw [ed]
        cases s with
        | true =>
          simp only [reduceIte]
          bv_omega
          exact k1 true "~t" hb (by decide +kernel)
        | false =>
          simp only [Bool.false_eq_true, reduceIte]
          bv_omega
          exact k1 false "~e" hb (by decide +kernel)
      · have n2 : ∀ s, ¬ BR (L z) s := fun s hb => by
          obtain ⟨ss', hK', hl', hx⟩ := br_words h1 h2 hb
          have := (ks_fun hK hK').1
          subst this
          have : ((wr.zip ss).map fun p => lfB p.2 p.1).all id = true := List.all_eq_true.mpr fun b hb => by
            obtain ⟨p, hp, rfl⟩ := List.mem_map.mp hb
            obtain ⟨i, hi, e⟩ := List.mem_iff_getElem.mp hp
            rw [List.length_zip] at hi
            rw [List.getElem_zip] at e
            rw [← e]
            exact (lfB_iff _ _).mpr (hx i (by omega) (by omega))
          rw [this] at ha
          cases ha
        bv_omega
        exact k2 n2
    · have n2 : ∀ s, ¬ BR (L z) s := fun s hb => by
        obtain ⟨ss', hK', hl', _⟩ := br_words h1 h2 hb
        have := (ks_fun hK hK').1
        subst this
        have := of_decide_eq_false hl
        simp only [List.length_cons, List.length_map] at this
        omega
      bv_omega
      exact k2 n2
  · refine ⟨.str w0, .inl (.inr w0), none, rfl, rfl, due_none (fun k hm e => hk ⟨k.2.1, k.2.2, by rw [← e]; exact hm⟩), GetR.no ?_⟩
    have n2 : ∀ s, ¬ BR (L z) s := fun s hb => by
      obtain ⟨ss, hK, _⟩ := br_words h1 h2 hb
      exact hk ⟨ss, s, hK⟩
    bv_omega
    exact k2 n2
theorem at1 {x : Str} {c i : Nat} : StrLaws.At x ⟨#[c]⟩ x.length i ↔ (L x)[i]? = some c := by
  rw [TL.at_iff (by simp [TL.tl])]
  unfold TL.pre
  show ((L x).drop i).take 1 == [c] ↔ _
  rw [beq_iff_eq]
  cases h : (L x).drop i with
  | nil =>
    have : (L x)[i]? = none := by
      rw [List.getElem?_eq_none_iff]
      exact List.drop_eq_nil_iff.mp h
    rw [this]
    simp
  | cons y r =>
    have : (L x)[i]? = some y := by
      have := List.getElem?_drop (xs := L x) (i := i) (j := 0)
      rw [h] at this
      simpa using this.symm
    rw [this]
    simp
theorem rpart_last {x : Str} {a R : List Nat} (h : L x = a ++ 40 :: R) (h0 : (40 : Nat) ∉ R) : (Txt.rpartition x "(").1 = ⟨a.toArray⟩ := by
  have hat : StrLaws.At x ⟨#[40]⟩ x.length a.length := at1.mpr (by rw [h]; simp)
  have hno : ∀ i, a.length < i → ¬ StrLaws.At x ⟨#[40]⟩ x.length i := fun i hi hA => by
    have := at1.mp hA
    rw [h, List.getElem?_append_right (by omega)] at this
    obtain ⟨k, hk⟩ : ∃ k, i - a.length = k + 1 := ⟨i - a.length - 1, by omega⟩
    rw [hk, List.getElem?_cons_succ] at this
    exact h0 (List.mem_of_getElem? this)
  have e0 : ("(" : Str) = ⟨#[40]⟩ := rfl
  rw [e0]
  rcases StrLaws.last_spec x ⟨#[40]⟩ with ⟨_, z⟩ | ⟨i, e, h1, h2⟩
  · exact absurd hat (z _)
  · have ei : i = a.length := by
      rcases Nat.lt_trichotomy i a.length with z | z | z
      · exact absurd hat (h2 _ z)
      · exact z
      · exact absurd h1 (hno _ z)
    unfold Txt.rpartition
    rw [e]
    show Builtin.Str.strSub x 0 i = _
    refine str_ext ?_
    have := TL.tl_strSub x 0 i
    show TL.tl (Builtin.Str.strSub x 0 i) = _
    rw [this, ei]
    show ((L x).drop 0).take (a.length - 0) = _
    rw [h]
    simp
theorem occ_full (s sub : Str) (hi : Nat) : ∀ (l : List Nat) (a free : Nat), ((forIn l ((#[a] : Array Nat), free) (StrLaws.occBody s sub hi 1)).run).fst = #[a]
  | [], _, _ => rfl
  | b :: l, a, free => by
    rw [List.forIn_cons]
    unfold StrLaws.occBody
    rw [if_neg (by simp)]
    exact occ_full s sub hi l a free
theorem occ_first (s sub : Str) (hi : Nat) : ∀ (l : List Nat) (free : Nat), (∀ i ∈ l, free ≤ i) →
    (((forIn l ((#[] : Array Nat), free) (StrLaws.occBody s sub hi 1)).run).fst = #[] ∧ ∀ i ∈ l, ¬ StrLaws.At s sub hi i) ∨
    ∃ l1 a l2, l = l1 ++ a :: l2 ∧ ((forIn l ((#[] : Array Nat), free) (StrLaws.occBody s sub hi 1)).run).fst = #[a] ∧ StrLaws.At s sub hi a ∧ ∀ i ∈ l1, ¬ StrLaws.At s sub hi i
  | [], _, _ => .inl ⟨rfl, fun i m => nomatch m⟩
  | b :: l, free, hf => by
    have hb : free ≤ b := hf b (by simp)
    rw [List.forIn_cons]
    by_cases hc : StrLaws.At s sub hi b
    · refine .inr ⟨[], b, l, rfl, ?_, hc, fun i m => nomatch m⟩
      have e : (StrLaws.occBody s sub hi 1 b ((#[] : Array Nat), free)) = pure (ForInStep.yield ((#[b] : Array Nat), b + sub.length)) := by
        unfold StrLaws.occBody
        rw [if_pos ⟨⟨⟨by simp, hb⟩, hc.1⟩, hc.2⟩]
        rfl
      rw [e]
      exact occ_full s sub hi l b _
    · have e : (StrLaws.occBody s sub hi 1 b ((#[] : Array Nat), free)) = pure (ForInStep.yield ((#[] : Array Nat), free)) := by
        unfold StrLaws.occBody
        rw [if_neg fun z => hc ⟨z.1.2, z.2⟩]
      rw [e]
      rcases occ_first s sub hi l free (fun i m => hf i (List.mem_cons_of_mem _ m)) with ⟨h1, h2⟩ | ⟨l1, a, l2, h1, h2, h3, h4⟩
      · refine .inl ⟨h1, fun i m => ?_⟩
        rcases List.mem_cons.mp m with z | m
        · rw [z]; exact hc
        · exact h2 i m
      · refine .inr ⟨b :: l1, a, l2, by rw [h1]; rfl, h2, h3, fun i m => ?_⟩
        rcases List.mem_cons.mp m with z | m
        · rw [z]; exact hc
        · exact h4 i m
theorem find_at {x : Str} {u v : List Nat} (h : L x = u ++ v) : ((41 : Nat) ∉ v ∧ Txt.find3 x ")" (u.length : Nat) = -1) ∨ ∃ p q, v = p ++ 41 :: q ∧ (41 : Nat) ∉ p ∧ Txt.find3 x ")" (u.length : Nat) = ((u.length + p.length : Nat) : Int) := by
  have hl : x.length = u.length + v.length := by rw [← List.length_append, ← h]; simp [L, Str.length]
  have e0 : (")" : Str) = ⟨#[41]⟩ := rfl
  have ef : fromIndex x.length ((u.length : Nat) : Int) = u.length := by
    unfold fromIndex
    rw [if_neg (by omega)]
    omega
  rw [e0]
  unfold Txt.find3
  rw [ef, StrLaws.occ_eq]
  rcases occ_first x ⟨#[41]⟩ x.length (List.range' u.length (x.length + 1 - u.length)) u.length (fun i m => (List.mem_range'_1.mp m).1) with ⟨h1, h2⟩ | ⟨l1, a, l2, h1, h2, h3, h4⟩
  · refine .inl ⟨fun m => ?_, by rw [h1]⟩
    obtain ⟨i, hi, e⟩ := List.getElem_of_mem m
    refine h2 (u.length + i) (List.mem_range'_1.mpr ⟨by omega, by omega⟩) (at1.mpr ?_)
    rw [h, List.getElem?_append_right (by omega), Nat.add_sub_cancel_left, List.getElem?_eq_getElem hi, e]
  · right
    rw [h2]
    have ha := at1.mp h3
    have hra : a ∈ List.range' u.length (x.length + 1 - u.length) := by rw [h1]; simp
    have hra2 := List.mem_range'_1.mp hra
    rw [h, List.getElem?_append_right hra2.1] at ha
    obtain ⟨k, hk⟩ : ∃ k, a = u.length + k := ⟨a - u.length, by omega⟩
    subst hk
    rw [Nat.add_sub_cancel_left] at ha
    obtain ⟨hk, ek⟩ := List.getElem?_eq_some_iff.mp ha
    refine ⟨v.take k, v.drop (k + 1), ?_, fun m => ?_, ?_⟩
    · rw [← ek, List.getElem_cons_drop, List.take_append_drop]
    · obtain ⟨i, hi, e⟩ := List.getElem_of_mem m
      rw [List.length_take] at hi
      rw [List.getElem_take] at e
      refine h4 (u.length + i) ?_ (at1.mpr ?_)
      · have m1 : u.length + i ∈ List.range' u.length (x.length + 1 - u.length) := List.mem_range'_1.mpr ⟨by omega, by omega⟩
        have pw : (l1 ++ (u.length + k) :: l2).Pairwise (· < ·) := by rw [← h1]; exact List.pairwise_lt_range'
        rw [h1] at m1
        rcases List.mem_append.mp m1 with z | z
        · exact z
        · have pw2 := (List.pairwise_append.mp pw).2.1
          rcases List.mem_cons.mp z with z | z
          · omega
          · have := (List.pairwise_cons.mp pw2).1 _ z
            omega
      · rw [h, List.getElem?_append_right (by omega), Nat.add_sub_cancel_left, List.getElem?_eq_getElem (by omega), e]
    · show ((u.length + k : Nat) : Int) = _
      rw [List.length_take, Nat.min_eq_left (by omega)]
theorem sg_eq {c d : Nat} : ((⟨#[c]⟩ : Str) = ⟨#[d]⟩) ↔ c = d := by
  constructor
  · intro e
    have := congrArg L e
    simpa [L] using this
  · intro e; rw [e]
theorem br_fun {ins : List Nat} {s s' : Bool} (h : BR ins s) (k : BR ins s') : s = s' := by
  obtain ⟨w, ss, xs, hK, hl, ha, e⟩ := h
  obtain ⟨w', ss', xs', hK', hl', ha', e'⟩ := k
  rw [e] at e'
  have nof : ∀ {w : Str} {ss : List Bool} {s : Bool} {xs : List (List Nat)}, (w, ss, s) ∈ KS → xs.length = ss.length → (∀ i (h1 : i < ss.length) (h2 : i < xs.length), lf ss[i] xs[i]) → ∀ x ∈ L w :: xs, (32 : Nat) ∉ x := fun hK hl ha x m => by
    rcases List.mem_cons.mp m with e | m
    · rw [e]; exact ks_no hK (.inr (.inr (.inl rfl)))
    · obtain ⟨i, hi, rfl⟩ := List.getElem_of_mem m
      exact lf_no (ha i (by omega) hi) (.inr (.inr rfl))
  obtain ⟨e1, _⟩ := words_eq e' (nof hK hl ha) (nof hK' hl' ha')
  have ew : w = w' := L_inj e1
  subst ew
  exact (ks_fun hK hK').2
theorem hole_len (s : Bool) : (hole s).length = 2 := by cases s <;> rfl
theorem hole_40 (s : Bool) : (hole s).count 40 = 0 := by cases s <;> decide
theorem cut_lo {T : Str} {p : Nat} {q : List Nat} (h : L T = q ++ T.cps.toList.drop p) (hq : q.length = p) : cutS T none (some (p : Int)) = ⟨q.toArray⟩ := by
  have hl : T.cps.toList.length = T.length := by simp [Str.length]
  have h2 := congrArg List.length h
  have hL : (L T).length = T.length := by simp [L, Str.length]
  rw [List.length_append, hL] at h2
  unfold cutS
  rw [sIx_nat (by omega)]
  show (⟨((T.cps.toList.drop (HT.sIx T.length 0 none)).take (p - HT.sIx T.length 0 none)).toArray⟩ : Str) = _
  have e0 : HT.sIx T.length 0 none = 0 := rfl
  rw [e0, List.drop_zero]
  show (⟨((L T).take (p - 0)).toArray⟩ : Str) = _
  rw [h, Nat.sub_zero, ← hq, List.take_left]
theorem cut_hi {T : Str} {p : Nat} (hp : p ≤ T.length) : cutS T (some (p : Int)) none = ⟨(T.cps.toList.drop p).toArray⟩ := by
  have hl : T.cps.toList.length = T.length := by simp [Str.length]
  unfold cutS
  rw [sIx_nat hp]
  have e0 : HT.sIx T.length T.length none = T.length := rfl
  rw [e0, List.take_of_length_le (by rw [List.length_drop]; omega)]
theorem fw_ltold {z : Str} {s : Bool} (hz : z.length ≤ 90000) {A : O → List O → Prop} {B : Exn → Prop} (k : ∀ b : Bool, (b = true ↔ sc 0 (L z) = true ∧ GG s (L z)) → A (.d (.bool b)) [.d (.str z), .d (.str (sS s))]) : FW (f_law_told [.d (.str z), .d (.str (sS s))]) A B := by
  have hs : (signs z).length = z.length := by simp [signs, Str.length]
  refine fwRun ?_
  unfold g_law_told
  bv_omega
  rw [sg_signs]
  refine wp_forI (fun c => PyData.str ⟨#[c]⟩) (fun r g => ∃ (d : Int) (o3 : Option O), sc 0 (L z) = sc d r ∧ 0 ≤ d ∧ d ≤ 8 ∧ g = [some (.d (.str z)), some (.d (.str (sS s))), some (.d (.int d)), o3, none, none, none]) ?_ ?_ ⟨0, none, rfl, by decide, by decide, rfl⟩
  · rintro g ⟨d, o3, e, d0, d1, eg⟩
    have e8 : sc 0 (L z) = true := e
    have hcz := List.count_le_length (a := 40) (l := L z)
    have hlz : (L z).length = z.length := by simp [L, Str.length]
    subst eg
    bv_omega
    refine wp_whI (fun m g => ∃ (t : Str) (o4 o5 o6 : Option O), m = (L t).count 40 ∧ t.length ≤ z.length ∧ (GG s (L t) ↔ GG s (L z)) ∧ g = [some (.d (.str t)), some (.d (.str (sS s))), some (.d (.int d)), o3, o4, o5, o6]) ?_ (k := (L z).count 40) (by omega) ⟨z, none, none, none, rfl, Nat.le_refl _, Iff.rfl, rfl⟩
    rintro m g ⟨t, o4, o5, o6, em, htl, hiff, eg⟩
    subst eg
    have hLt : (L t).length = t.length := by simp [L, Str.length]
    bv_omega
    rw [show ("(" : Str) = ⟨#[40]⟩ from rfl]
    refine in_ch (neg := false) ?_
    rw [show (if false = true then !decide ((40 : Nat) ∈ t.cps.toList) else decide ((40 : Nat) ∈ t.cps.toList)) = decide ((40 : Nat) ∈ L t) from rfl]
    bv_omega
    refine IfK.dec (fun h40 => ?_) (fun h40 => ?_)
    · obtain ⟨a, R, ht, hR⟩ : ∃ a R, L t = a ++ 40 :: R ∧ (40 : Nat) ∉ R := by
        obtain ⟨as, bs, h1, h2⟩ := List.eq_append_cons_of_mem (show (40 : Nat) ∈ (L t).reverse by simpa using h40)
        refine ⟨bs.reverse, as.reverse, ?_, by simpa using h2⟩
        have := congrArg List.reverse h1
        simpa using this
      have hlen := congrArg List.length ht
      rw [hLt, List.length_append, List.length_cons] at hlen
      bv_omega
      refine ⟨⟨by decide +kernel, by omega⟩, ?_⟩
      rw [show (⟨#[40]⟩ : Str) = "(" from rfl, rpart_last ht hR]
      bv_omega
      rw [show (⟨a.toArray⟩ : Str).length = a.length by simp [Str.length]]
      refine ⟨by omega, ?_⟩
      bv_omega
      rcases find_at ht with ⟨hn, hf⟩ | ⟨p, q, hv, hp, hf⟩
      · have hno : ¬ GG s (L z) := fun hg => by
          have := gg_last (hiff.mpr hg) ht
          exact hn (List.mem_cons_of_mem _ this)
        rw [hf]
        bv_omega
        exact k false ⟨(fun z => nomatch z), fun ⟨_, z2⟩ => absurd z2 hno⟩
      · obtain ⟨ins, rfl, hR2⟩ : ∃ ins, p = 40 :: ins ∧ R = ins ++ 41 :: q := by
          cases p with
          | nil => cases (List.head_eq_of_cons_eq hv : (40 : Nat) = 41)
          | cons x ins =>
            have e1 : (40 : Nat) = x := List.head_eq_of_cons_eq hv
            exact ⟨ins, by rw [e1], List.tail_eq_of_cons_eq hv⟩
        have hlR := congrArg List.length hR2
        rw [List.length_append, List.length_cons] at hlR
        have hi40 : (40 : Nat) ∉ ins := fun m => hR (by rw [hR2]; exact List.mem_append_left _ m)
        have hi41 : (41 : Nat) ∉ ins := fun m => hp (List.mem_cons_of_mem _ m)
        have hq40 : (40 : Nat) ∉ q := fun m => hR (by rw [hR2]; exact List.mem_append_right _ (List.mem_cons_of_mem _ m))
        rw [hf, List.length_cons]
        bv_omega
        refine IfK.df (by omega) ?_
        bv_omega
        have ht2 : L t = (a ++ [40]) ++ (ins ++ 41 :: q) := by rw [ht, hR2]; simp
        have hd1 : t.cps.toList.drop (a.length + 1) = ins ++ 41 :: q := by
          show (L t).drop (a.length + 1) = _
          rw [ht2]
          exact List.drop_left' (by simp)
        have hd2 : t.cps.toList.drop (a.length + 1 + ins.length + 1) = q := drop_add (a := [41]) (drop_add hd1)
        rw [show ((a.length : Int) + 1) = ((a.length + 1 : Nat) : Int) from rfl, show ((a.length + (ins.length + 1) : Nat) : Int) = ((a.length + 1 + ins.length : Nat) : Int) by omega, cut_of hd1 (by omega)]
        have hLi : L (⟨ins.toArray⟩ : Str) = ins := by simp [L]
        refine fw_lbracket (by show ins.toArray.size ≤ 100000; rw [List.size_toArray]; omega) (fun s' put hb hput => ?_) (fun hno => ?_)
        · rw [hLi] at hb
          have hpl : put.length = 2 := by rw [← hole_len s', ← hput]; simp [L, Str.length]
          have hpne : put ≠ "" := fun e => by rw [e] at hpl; exact absurd hpl (by decide +kernel)
          bv_omega
          refine IfK.df hpne ?_
          bv_omega
          have hd0 : t.cps.toList.drop a.length = 40 :: R := by
            show (L t).drop a.length = _
            rw [ht]
            exact List.drop_left' rfl
          have ca : cutS t none (some ((a.length : Nat) : Int)) = ⟨a.toArray⟩ := cut_lo (by rw [hd0]; exact ht) rfl
          rw [ca]
          have la : (⟨a.toArray⟩ : Str).length = a.length := by simp [Str.length]
          refine ⟨by rw [la]; omega, ?_⟩
          bv_omega
          rw [show (((a.length + 1 + ins.length : Nat) : Int) + 1) = ((a.length + 1 + ins.length + 1 : Nat) : Int) from rfl]
          have cq : cutS t (some ((a.length + 1 + ins.length + 1 : Nat) : Int)) none = ⟨q.toArray⟩ := by rw [cut_hi (by omega), hd2]
          have lq : (⟨q.toArray⟩ : Str).length = q.length := by simp [Str.length]
          have lap : ((⟨a.toArray⟩ : Str) ++ put).length = a.length + 2 := by
            have : (L ((⟨a.toArray⟩ : Str) ++ put)).length = a.length + 2 := by
              unfold L
              rw [app_L]
              rw [List.length_append]
              show _ + (L put).length = _
              rw [hput, hole_len]
            simpa [L, Str.length] using this
          rw [cq]
          refine ⟨by rw [lap, lq]; omega, ?_⟩
          bv_omega
          have eL : L ((⟨a.toArray⟩ : Str) ++ put ++ ⟨q.toArray⟩) = a ++ (hole s' ++ q) := by
            unfold L
            rw [app_L, app_L]
            show a ++ L put ++ q = _
            rw [hput, List.append_assoc]
          have hcnt : (L t).count 40 = ((a ++ (hole s' ++ q)).count 40) + 1 := by
            rw [ht, hR2]
            simp only [List.count_append, List.count_cons, hole_40, beq_self_eq_true, if_true]
            have c1 : ins.count 40 = 0 := List.count_eq_zero.mpr hi40
            have c2 : ((41 : Nat) == 40) = false := rfl
            rw [c1, c2]
            simp
            omega
          refine ⟨_, ?_, _, _, _, _, rfl, ?_, ?_, rfl⟩
          · rw [eL]; omega
          · have : (L ((⟨a.toArray⟩ : Str) ++ put ++ ⟨q.toArray⟩)).length = a.length + (2 + q.length) := by rw [eL, List.length_append, List.length_append, hole_len]
            have e2 : ((⟨a.toArray⟩ : Str) ++ put ++ ⟨q.toArray⟩).length = a.length + (2 + q.length) := by simpa [L, Str.length] using this
            rw [e2]
            omega
          · rw [eL, ← hiff]
            constructor
            · intro hg
              have := gg_exp hg a ins q s' rfl hb
              rw [ht, hR2]
              exact this
            · intro hg
              obtain ⟨s2, hb2, hg2⟩ := gg_red hg a ins q (by rw [ht, hR2]) hi40 hi41 hq40
              rw [br_fun hb hb2]
              exact hg2
        · rw [hLi] at hno
          have hnG : ¬ GG s (L z) := fun hg => by
            obtain ⟨s', hb, _⟩ := gg_red (hiff.mpr hg) a ins q (by rw [ht, hR2]) hi40 hi41 hq40
            exact hno s' hb
          bv_omega
          exact k false ⟨(fun z => nomatch z), fun ⟨_, z2⟩ => absurd z2 hnG⟩
    · have hlf := lfB_iff s t
      bv_omega
      refine fw_lisPart (by omega) ?_
      bv_omega
      refine k _ ?_
      rw [lfB_iff, ← hiff]
      exact ⟨fun h => ⟨e8, .leaf h⟩, fun h => gg_leaf h.2 h40⟩
  · rintro c r g ⟨d, o3, e, d0, d1, eg⟩
    subst eg
    have eD : ((d + if decide ((⟨#[c]⟩ : Str) = "(") = true then 1 else 0) - if decide ((⟨#[c]⟩ : Str) = ")") = true then 1 else 0) = scD d c := by
      rw [show ("(" : Str) = ⟨#[40]⟩ from rfl, show (")" : Str) = ⟨#[41]⟩ from rfl]
      simp only [decide_eq_true_eq, sg_eq]
      unfold scD
      by_cases h1 : c = 40
      · subst h1
        rw [if_pos rfl, if_neg (by decide), if_pos rfl]
        omega
      · by_cases h2 : c = 41
        · subst h2
          rw [if_neg (by decide), if_pos rfl, if_neg (by decide), if_pos rfl]
          omega
        · rw [if_neg h1, if_neg h2, if_neg h1, if_neg h2]
          omega
    have hbad : bad d c → A (.d (.bool false)) [.d (.str z), .d (.str (sS s))] := fun hb => k false ⟨(fun z => nomatch z), fun ⟨z1, _⟩ => by
      rw [e, sc_cons, if_pos hb] at z1
      cases z1⟩
    bv_omega
    rw [eD]
    refine IfK.dec (fun h1 => ?_) (fun h1 => ?_)
    · have := hbad (.inl h1)
      bv_omega
      exact this
    bv_omega
    refine IfK.dec (fun h2 => ?_) (fun h2 => ?_)
    · have := hbad (.inr (.inl (by omega)))
      bv_omega
      exact this
    bv_omega
    refine IfK.dec (fun h3 => ?_) (fun h3 => ?_)
    · have := hbad (.inr (.inr (sg_eq.mp (h3.trans (show ("~" : Str) = ⟨#[126]⟩ from rfl)))))
      bv_omega
      exact this
    have hnb : ¬ bad d c := fun hb => by
      rcases hb with q | q | q
      · omega
      · omega
      · exact h3 (by rw [q]; rfl)
    bv_omega
    exact ⟨scD d c, _, by rw [e, sc_cons, if_neg hnb], by omega, by omega, rfl⟩
end G
namespace Z
open PySem PySem.Spec PyProof.Rows L2
/-- a block out of which exceptions go -/
abbrev blkX (X : Cx) (scope : Scope) (i : BI) : Cx := { blkAt X scope i with xe := fun e s' => notedBy (model X.prog X.w) X.A (compEnvC scope i.2.2.2.1 i.2.2.1 X.env) (CompFails (model X.prog X.w) X.A X.xe (compEnvC scope i.2.2.2.1 i.2.2.1 X.env)) e s' }
section
variable {X : Cx} {W : WX} {pins : List (Addr × Obj)} {σ : L2.St} {H : Hp} {s : Shared} {scope : Scope} {own : List (Str × Nat)} {C : Addr} {cl : List (Str × Addr)} {fp : List Addr} {k : Nat}
theorem okX {i : BI} (ok : (blkAt X scope i).Ok) : (blkX X scope i).Ok :=
  ⟨ok.mod, ok.kind, ok.glob, ok.blt, ok.above, ok.inj, ok.has, ok.cab, ok.hd, ok.frames, ok.stk, ok.exf, ok.bs, ok.bsz, ok.noex, ok.exfs, ok.funs, ok.frf⟩
end
end Z
namespace G
open PySem PySem.Spec L2 Z
end G
namespace G
open PySem PySem.Spec L2 Z
theorem nm_len {z : Str} (h : NmOk z) : (L z).length ≤ 5 := by
  have := h.le
  unfold L
  rw [Array.length_toList]
  exact this
theorem tT_len {qs : List Str} (hq : ∀ q ∈ qs, NmOk q) : ∀ t : Tst, t.over qs → (tT t).length ≤ 10 * t.size
  | .yes, _ => by decide +kernel
  | .no, _ => by decide +kernel
  | .ask q, h => by
    have := nm_len (hq q h)
    simp only [tT, Tst.size]
    omega
  | .not t, h => by
    have ih := tT_len hq t h
    have hw : (L "not").length = 3 := by decide +kernel
    simp only [tT, nodT, Tst.size, List.length_cons, List.length_append, List.flatMap_cons, List.flatMap_nil, List.append_nil, List.length_nil]
    omega
  | .and a b, h => by
    have h1 := tT_len hq a h.1
    have h2 := tT_len hq b h.2
    have hw : (L "and").length = 3 := by decide +kernel
    simp only [tT, nodT, Tst.size, List.length_cons, List.length_append, List.flatMap_cons, List.flatMap_nil, List.append_nil, List.length_nil]
    omega
  | .or a b, h => by
    have h1 := tT_len hq a h.1
    have h2 := tT_len hq b h.2
    have hw : (L "or").length = 2 := by decide +kernel
    simp only [tT, nodT, Tst.size, List.length_cons, List.length_append, List.flatMap_cons, List.flatMap_nil, List.append_nil, List.length_nil]
    omega
end G
namespace G
open PySem PySem.Spec L2 Z
theorem fw_readErrandA {T : Str} (hT : T.length ≤ 100000) {A : O → List O → Prop} {B : Exn → Prop} (k : ∀ t, pE 8 (L T) = some (t, []) → A (.d (Err.d t)) [.d (.str T)]) (kx : (∀ t, pE 8 (L T) ≠ some (t, [])) → B (xB 0)) : FW (f_read_errand [.d (.str T)]) A B := by
  refine fwRun ?_
  unfold g_read_errand
  bv_omega
  with_reducible refine fw_rdInit ?_
  bv_omega
  rw [show rdI T 0 0 0 = rdI T 0 ((0 : Nat) : Int) ((0 : Nat) : Int) from rfl]
  refine fw_tkE (e := 8) (l := L T) (by omega) (by omega) hT rfl (Nat.zero_le _) (fun t q P' hp h2 hP => ?_) (fun hn => kx fun t e => by rw [hn] at e; cases e)
  bv_omega
  refine fw_endA hT h2 hP (fun e => ?_) (fun e => kx fun t' e' => by rw [hp] at e'; cases e'; exact e rfl)
  bv_omega
  exact k t (by rw [hp, e])
theorem fw_readTestA {T : Str} (hT : T.length ≤ 100000) {A : O → List O → Prop} {B : Exn → Prop} (k : ∀ t, pT 8 (L T) = some (t, []) → A (.d (Tst.d t)) [.d (.str T)]) (kx : (∀ t, pT 8 (L T) ≠ some (t, [])) → B (xB 0)) : FW (f_read_test [.d (.str T)]) A B := by
  refine fwRun ?_
  unfold g_read_test
  bv_omega
  with_reducible refine fw_rdInit ?_
  bv_omega
  rw [show rdI T 0 0 0 = rdI T 0 ((0 : Nat) : Int) ((0 : Nat) : Int) from rfl]
  refine fw_tkT (e := 8) (l := L T) (by omega) (by omega) hT rfl (Nat.zero_le _) (fun t q P' hp h2 hP => ?_) (fun hn => kx fun t e => by rw [hn] at e; cases e)
  bv_omega
  refine fw_endA hT h2 hP (fun e => ?_) (fun e => kx fun t' e' => by rw [hp] at e'; cases e'; exact e rfl)
  bv_omega
  exact k t (by rw [hp, e])
theorem ens_over : ∀ {t : Err} {qs : List Str}, (∀ q ∈ ens t, q ∈ qs) → t.over qs qs
  | .done, _, _ => trivial
  | .doo p, _, h => h p (by simp [ens])
  | .often u, _, h => ens_over (t := u) h
  | .whl t u, _, h => ⟨tns_over fun q m => h q (List.mem_append_left _ m), ens_over fun q m => h q (List.mem_append_right _ m)⟩
  | .thn u v, _, h => ⟨ens_over fun q m => h q (List.mem_append_left _ m), ens_over fun q m => h q (List.mem_append_right _ m)⟩
  | .iff t u v, _, h => ⟨tns_over fun q m => h q (List.mem_append_left _ m), ens_over fun q m => h q (List.mem_append_right _ (List.mem_append_left _ m)), ens_over fun q m => h q (List.mem_append_right _ (List.mem_append_right _ m))⟩
  | .eth u v, _, h => ⟨ens_over fun q m => h q (List.mem_append_left _ m), ens_over fun q m => h q (List.mem_append_right _ m)⟩
theorem brE_deep : ∀ t : Err, t.deep ≤ brE t + 1 ∧ t.tst fun u => u.deep ≤ brE t + 1
  | .done => ⟨by decide, trivial⟩
  | .doo p => ⟨by show 1 ≤ 0 + 1; decide, trivial⟩
  | .often u => by
    obtain ⟨h, k⟩ := brE_deep u
    refine ⟨by simp only [Err.deep, brE]; omega, ?_⟩
    exact Err.tst_mono (fun t h => by simp only [brE]; omega) k
  | .whl t u => by
    obtain ⟨h, k⟩ := brE_deep u
    refine ⟨by simp only [Err.deep, brE]; omega, by simp only [brE]; omega, ?_⟩
    exact Err.tst_mono (fun t h => by simp only [brE]; omega) k
  | .thn u v => by
    obtain ⟨h, k⟩ := brE_deep u
    obtain ⟨h2, k2⟩ := brE_deep v
    refine ⟨by simp only [Err.deep, brE]; omega, ?_, ?_⟩
    · exact Err.tst_mono (fun t h => by simp only [brE]; omega) k
    · exact Err.tst_mono (fun t h => by simp only [brE]; omega) k2
  | .iff t u v => by
    obtain ⟨h, k⟩ := brE_deep u
    obtain ⟨h2, k2⟩ := brE_deep v
    refine ⟨by simp only [Err.deep, brE]; omega, by simp only [brE]; omega, ?_, ?_⟩
    · exact Err.tst_mono (fun t h => by simp only [brE]; omega) k
    · exact Err.tst_mono (fun t h => by simp only [brE]; omega) k2
  | .eth u v => by
    obtain ⟨h, k⟩ := brE_deep u
    obtain ⟨h2, k2⟩ := brE_deep v
    refine ⟨by simp only [Err.deep, brE]; omega, ?_, ?_⟩
    · exact Err.tst_mono (fun t h => by simp only [brE]; omega) k
    · exact Err.tst_mono (fun t h => by simp only [brE]; omega) k2
theorem fw_lsigns {c s : Int} {A : O → List O → Prop} {B : Exn → Prop} (k : ∀ (z : Str) (c s : Int), z.length ≤ 2 → A (.d (.str z)) [.lst [.d (.int c), .d (.int s)]]) : FW (f_law_signs [.lst [.d (.int c), .d (.int s)]]) A B := by
  refine fwRun ?_
  unfold g_law_signs
  bv_omega
  generalize hz : (Str.ofString _ ++ Str.ofString _ : Str) = z
  have hl : z.length = 95 := by rw [← hz]; decide +kernel
  refine Sd.mk (by decide +kernel) ?_
  bv_omega
  intro x c s x0 x1
  bv_omega
  refine optW_ixS (by omega) (by omega) (by omega) fun q hq => ?_
  bv_omega
  intro y c s y0 y1
  bv_omega
  refine optW_ixS (by omega) (by omega) (by omega) fun q2 hq2 => ?_
  bv_omega
  intro w c s w0 w1
  bv_omega
  refine optW_ixS (by decide) (by omega) (by have : ("()" : Str).length = 2 := rfl; omega) fun q3 hq3 => ?_
  bv_omega
  intro r c s r0 r1
  bv_omega
  refine ix_any (e := PyData.str) (l := [_, _, _, _, _, _]) rfl r0 r1 fun y hy => ?_
  have hx : y.length ≤ 2 := by
    simp only [List.mem_cons, List.not_mem_nil, or_false] at hy
    rcases hy with rfl | rfl | rfl | rfl | rfl | rfl
    · decide
    · decide
    · decide
    · show 1 ≤ 2; decide
    · show 1 ≤ 2; decide
    · show 1 ≤ 2; decide
  bv_omega
  exact k _ _ _ hx
def jl (l : List Str) : Nat := (l.map fun x => x.length + 1).sum
theorem jl_app (a b : List Str) : jl (a ++ b) = jl a + jl b := by simp [jl]
theorem jl_sub {a b : List Str} (h : a.Sublist b) : jl a ≤ jl b := by
  induction h with
  | slnil => exact Nat.le_refl _
  | cons x _ ih => simp only [jl, List.map_cons, List.sum_cons] at ih ⊢; omega
  | cons_cons x _ ih => simp only [jl, List.map_cons, List.sum_cons] at ih ⊢; omega
theorem jl_cut (l : List Str) (lo hi : Option Int) : jl (cutD l lo hi) ≤ jl l := jl_sub (by unfold cutD; exact (List.take_sublist _ _).trans (List.drop_sublist _ _))
theorem join_jl : ∀ l : List Str, (Txt.join " " l).length ≤ jl l
  | [] => by decide
  | w :: r => by
    have h1 : (Txt.join " " (w :: r)).length = (L (Txt.join " " (w :: r))).length := by simp [L, Str.length]
    have h2 : ∀ r : List Str, (flt (r.map L)).length = jl r := fun r => by
      induction r with
      | nil => rfl
      | cons x r ih =>
        rw [List.map_cons, flt_cons, List.length_cons, List.length_append, ih]
        have : (L x).length = x.length := by simp [L, Str.length]
        simp only [jl, List.map_cons, List.sum_cons]
        omega
    have h3 : (L w).length = w.length := by simp [L, Str.length]
    rw [h1, join_flt, List.length_append, h2, h3]
    simp only [jl, List.map_cons, List.sum_cons]
    omega
theorem split_jl (z : Str) : ∃ ws : List Str, Txt.split z " " = ws ∧ jl ws = z.length + 1 ∧ 1 ≤ ws.length ∧ ws.length ≤ z.length + 1 ∧ ∀ x ∈ ws, x.length ≤ z.length := by
  obtain ⟨w0, wr, h1, h2, h3, h4, h5⟩ := split_words z
  refine ⟨_, h3, ?_, by simp, by simp; omega, h5⟩
  have h6 : ∀ r : List Str, (flt (r.map L)).length = jl r := fun r => by
    induction r with
    | nil => rfl
    | cons x r ih =>
      rw [List.map_cons, flt_cons, List.length_cons, List.length_append, ih]
      have : (L x).length = x.length := by simp [L, Str.length]
      simp only [jl, List.map_cons, List.sum_cons]
      omega
  have h7 := congrArg List.length h2
  rw [List.length_append, h6] at h7
  have h8 : (L z).length = z.length := by simp [L, Str.length]
  have h9 : (L w0).length = w0.length := by simp [L, Str.length]
  simp only [jl, List.map_cons, List.sum_cons] at h7 ⊢
  omega
theorem cut_lenL {α : Type} (l : List α) (lo hi : Option Int) : (cutD l lo hi).length ≤ l.length := by
  unfold cutD
  exact ((List.take_sublist _ _).trans (List.drop_sublist _ _)).length_le
theorem jl_sum : ∀ l : List Str, (l.map fun z => z.length).sum + l.length = jl l
  | [] => rfl
  | x :: r => by
    have ih := jl_sum r
    simp only [jl, List.map_cons, List.sum_cons, List.length_cons] at ih ⊢
    omega
theorem joinB_w {l : List Str} {K : O → Prop} (h : jl l ≤ 16000000) (k : K (.d (.str (Txt.join " " l)))) : optW (joinB " " (.lst ((l.map PyData.str).map O.d))) K := by
  have e : (l.map (·.length)).sum + l.length * (" " : Str).length = jl l := by
    rw [show (" " : Str).length = 1 from rfl, Nat.mul_one]
    exact jl_sum l
  refine Stp.go (Sd.mk (Nat.le_trans (Nat.le_of_eq e) (by omega)) k)
theorem fw_lspoilt {T : Str} {c s : Int} (hT : T.length ≤ 40000) {A : O → List O → Prop} {B : Exn → Prop} (k : ∀ (z : Str) (c s : Int), z.length ≤ 3 * T.length + 13 → A (.d (.str z)) [.lst [.d (.int c), .d (.int s)], .d (.str T)]) : FW (f_law_spoilt [.lst [.d (.int c), .d (.int s)], .d (.str T)]) A B := by
  refine fwRun ?_
  unfold g_law_spoilt
  bv_omega
  intro a c s a0 a1
  bv_omega
  intro f c s f0 f1
  bv_omega
  refine fw_lsigns fun sg c s hs => ?_
  have l1 := len_cut T none (some a)
  have l2 := len_cut T (some a) none
  have l3 := len_cut T (some (a + 1)) none
  bv_omega
  refine IfK.dec (fun h3 => ?_) (fun h3 => ?_)
  · bv_omega
    refine ix_any (e := PyData.str) (l := [_, _, _]) rfl f0 h3 fun y hy => ?_
    have hx : y.length ≤ 3 * T.length + 13 := by
      simp only [List.mem_cons, List.not_mem_nil, or_false] at hy
      rcases hy with rfl | rfl | rfl
      · simp only [len_app]; omega
      · simp only [len_app]; omega
      · simp only [len_app]; omega
    bv_omega
    exact k _ _ _ hx
  · bv_omega
    refine ⟨⟨by decide +kernel, by omega⟩, ?_⟩
    obtain ⟨ws, e1, e2, e3, e4, e5⟩ := split_jl T
    rw [e1]
    have e0 : (ws.map fun t => O.d (.str t)) = (ws.map PyData.str).map O.d := by rw [List.map_map]; rfl
    rw [e0]
    bv_omega
    intro a c s a0 a1
    bv_omega
    intro b c s b0 b1
    bv_omega
    refine ix_any (e := PyData.str) (l := ws) LtC.eq b0 (by simpa using b1) fun w hw => ?_
    have lw := e5 w hw
    have lt : takenS.length = 19 := by decide +kernel
    have lwl : (ws.map PyData.str).length = ws.length := List.length_map _
    bv_omega
    intro r c s r0 r1
    bv_omega
    have e9 : (takenS.map PyData.str ++ [PyData.str "", PyData.str "q", PyData.str "abcdef", PyData.str "(q)", PyData.str "(", PyData.str ")", PyData.str w]).map O.d = ((takenS ++ (["", "q", "abcdef", "(q)", "(", ")", w] : List Str)).map PyData.str).map O.d := by rw [List.map_append (l₁ := takenS)]; rfl
    rw [e9]
    refine ix_any (e := PyData.str) (l := takenS ++ (["", "q", "abcdef", "(q)", "(", ")", w] : List Str)) (asLT_d (allD_map _)) r0 (by simp only [List.length_append, List.length_cons, List.length_nil]; omega) fun y hy => ?_
    have ly : y.length ≤ T.length + 10 := by
      rcases List.mem_append.mp hy with m | m
      · have := taken_len y m; omega
      · simp only [List.mem_cons, List.not_mem_nil, or_false] at m
        rcases m with rfl | rfl | rfl | rfl | rfl | rfl | rfl
        · exact Nat.le_trans (by decide : (0 : Nat) ≤ 0) (Nat.zero_le _)
        · show 1 ≤ _; omega
        · show 6 ≤ _; omega
        · show 3 ≤ _; omega
        · show 1 ≤ _; omega
        · show 1 ≤ _; omega
        · omega
    clear e9
    have c1 : (cutD (ws.map PyData.str) none (some a)).length ≤ ws.length := Nat.le_trans (cut_lenL _ _ _) (by rw [List.length_map]; exact Nat.le_refl _)
    have c2 : (cutD (ws.map PyData.str) (some a) none).length ≤ ws.length := Nat.le_trans (cut_lenL _ _ _) (by rw [List.length_map]; exact Nat.le_refl _)
    have c3 : (cutD (ws.map PyData.str) (some (a + 1)) none).length ≤ ws.length := Nat.le_trans (cut_lenL _ _ _) (by rw [List.length_map]; exact Nat.le_refl _)
    have c4 : (cutD (ws.map PyData.str) none (some a) ++ [PyData.str y]).length ≤ ws.length + 1 := by simp only [List.length_append, List.length_cons, List.length_nil]; omega
    have j1 := jl_cut ws none (some a)
    have j2 := jl_cut ws (some a) none
    have j3 := jl_cut ws (some (a + 1)) none
    have j0 : jl [y] = y.length + 1 := by simp [jl]
    bv_omega
    refine IfK.dec (fun h3 => ?_) (fun h3 => ?_)
    · bv_omega
      have ee : cutD (ws.map PyData.str) none (some a) ++ [PyData.str y] ++ cutD (ws.map PyData.str) (some (a + 1)) none = (cutD ws none (some a) ++ [y] ++ cutD ws (some (a + 1)) none).map PyData.str := by rw [cutD_map, cutD_map, List.map_append, List.map_append]; rfl
      have jj : jl (cutD ws none (some a) ++ [y] ++ cutD ws (some (a + 1)) none) ≤ 3 * T.length + 13 := by rw [jl_app, jl_app]; omega
      rw [ee]
      generalize cutD ws none (some a) ++ [y] ++ cutD ws (some (a + 1)) none = l at jj
      refine joinB_w (by omega) ?_
      bv_omega
      exact k _ _ _ (Nat.le_trans (join_jl l) (by omega))
    bv_omega
    refine IfK.dec (fun h4 => ?_) (fun h4 => ?_)
    · bv_omega
      have ee : cutD (ws.map PyData.str) none (some a) ++ [PyData.str y] ++ cutD (ws.map PyData.str) (some a) none = (cutD ws none (some a) ++ [y] ++ cutD ws (some a) none).map PyData.str := by rw [cutD_map, cutD_map, List.map_append, List.map_append]; rfl
      have jj : jl (cutD ws none (some a) ++ [y] ++ cutD ws (some a) none) ≤ 3 * T.length + 13 := by rw [jl_app, jl_app]; omega
      rw [ee]
      generalize cutD ws none (some a) ++ [y] ++ cutD ws (some a) none = l at jj
      refine joinB_w (by omega) ?_
      bv_omega
      exact k _ _ _ (Nat.le_trans (join_jl l) (by omega))
    · bv_omega
      have ee : cutD (ws.map PyData.str) none (some a) ++ cutD (ws.map PyData.str) (some (a + 1)) none = (cutD ws none (some a) ++ cutD ws (some (a + 1)) none).map PyData.str := by rw [cutD_map, cutD_map, List.map_append]
      have jj : jl (cutD ws none (some a) ++ cutD ws (some (a + 1)) none) ≤ 3 * T.length + 13 := by rw [jl_app]; omega
      rw [ee]
      generalize cutD ws none (some a) ++ cutD ws (some (a + 1)) none = l at jj
      refine joinB_w (by omega) ?_
      bv_omega
      exact k _ _ _ (Nat.le_trans (join_jl l) (by omega))
end G
namespace Lawk14
open PySem PySem.Spec L2 Z G
theorem br_leaf {t : Err} (h : t.size = 1) : brE t = 0 := by
  cases t <;> simp only [Err.size, brE] at h ⊢
  all_goals
    rename_i u
    have := Err.size_pos u
    omega
theorem fw_any {qs ps : List Str} (hq : qs.length ≤ 1000) (hp : ps.length ≤ 1000) : ∀ {n : Nat} {l0 l1 deep : Int} {c s : Int} {A : O → List O → Prop} {B : Exn → Prop}, deep < n → 0 ≤ deep → deep ≤ 8 → 0 ≤ l0 → l0 ≤ 100 →
    (∀ (t : Err) (c s m0 m1 : Int), 0 ≤ m0 → (t.size : Int) + m0 ≤ l0 + 1 → (t.deep : Int) ≤ deep + 1 → (t.over qs ps ∧ (brE t : Int) ≤ deep) → t.tst (fun t => t.size ≤ 15 ∧ t.deep ≤ 12) →
      A (.d t.d) [.lst [.d (.int c), .d (.int s)], .d (.tuple [.list (qs.map PyData.str), .list (ps.map PyData.str)]), .lst [.d (.int m0), .d (.int m1)], .d (.int deep)]) →
    FW (f_law_any_errand n [.lst [.d (.int c), .d (.int s)], .d (.tuple [.list (qs.map PyData.str), .list (ps.map PyData.str)]), .lst [.d (.int l0), .d (.int l1)], .d (.int deep)]) A B
  | 0, _, _, _, _, _, _, _, h, _, _, _, _, _ => by omega
  | n + 1, l0, l1, deep, c, s, A, B, h, h0, h10, hl0, hl1, k => by
    have ih := @fw_any qs ps hq hp n
    refine fwRun ?_
    bv_omega
    intro f c s f0 f1; array_get_dec
    refine Stp.go (wp_ifP (deep = 0 ∨ l0 < 2 ∨ f = 0) ?_ (fun _ => ?_) (fun hc => ?_))
    · array_mem_dec
    · bv_omega
      refine fw_leaf hp fun t c s m1 b1 b2 o1 q1 => ?_
      bv_omega
      exact k t _ _ _ _ hl0 (by omega) (by omega) ⟨o1 _, by have := br_leaf b1; omega⟩ (q1 _)
    · array_get_dec
      refine Stp.go (wp_ifP (f = 1) ?_ (fun _ => ?_) (fun hc2 => ?_))
      · array_mem_dec
      · bv_omega
        refine ih (by omega) (by omega) (by omega) (by omega) (by omega) fun t c s m0 m1 b1 b2 b3 o1 q1 => ?_
        bv_omega
        exact k (.often t) _ _ _ _ b1 (by simp [Err.size]; omega) (by simp [Err.deep]; omega) ⟨o1.1, by have := o1.2; simp only [brE]; omega⟩ q1
      · bv_omega
        intro x c s h2 h3; bv_omega
        refine fw_anyT (by omega) (by omega) (by omega) hq fun t c s b1 b2 o0 => ?_
        have q0 : t.size ≤ 15 ∧ t.deep ≤ 12 := ⟨by omega, by omega⟩
        array_get_dec
        refine Stp.go (wp_ifP (f = 2) ?_ (fun _ => ?_) (fun hc2 => ?_))
        · array_mem_dec
        · bv_omega
          refine ih (by omega) (by omega) (by omega) (by omega) (by omega) fun u c s m0 m1 b1 b2 b3 o1 q1 => ?_
          bv_omega
          exact k (.whl t u) _ _ _ _ b1 (by simp [Err.size]; omega) (by simp [Err.deep]; omega) ⟨⟨o0, o1.1⟩, by have := o1.2; simp only [brE]; omega⟩ ⟨q0, q1⟩
        · bv_omega
          refine ih (by omega) (by omega) (by omega) (by omega) (by omega) fun u c s m0 m1 b1 b2 b3 o1 q1 => ?_
          bv_omega
          refine ih (by omega) (by omega) (by omega) (by omega) (by omega) fun v c s m0 m1 b4 b5 b6 o2 q2 => ?_
          bv_omega
          refine optW_ix rfl (Int.emod_nonneg _ (by omega)) (by have := Int.emod_lt_of_pos f (b := 3) (by omega); simpa using this) fun y hy => ?_
          simp only [List.mem_cons, List.not_mem_nil, or_false] at hy
          rcases hy with rfl | rfl | rfl
          · bv_omega
            exact k (.thn u v) _ _ _ _ b4 (by simp [Err.size]; omega) (by simp [Err.deep]; omega) ⟨⟨o1.1, o2.1⟩, by have := o1.2; have := o2.2; simp only [brE]; omega⟩ ⟨q1, q2⟩
          · bv_omega
            exact k (.iff t u v) _ _ _ _ b4 (by simp [Err.size]; omega) (by simp [Err.deep]; omega) ⟨⟨o0, o1.1, o2.1⟩, by have := o1.2; have := o2.2; simp only [brE]; omega⟩ ⟨q0, q1, q2⟩
          · bv_omega
            exact k (.eth u v) _ _ _ _ b4 (by simp [Err.size]; omega) (by simp [Err.deep]; omega) ⟨⟨o1.1, o2.1⟩, by have := o1.2; have := o2.2; simp only [brE]; omega⟩ ⟨q1, q2⟩
def TOk (t : Tst) : Prop := t.size ≤ 15 ∧ t.deep ≤ 12
theorem tE_len {qs ps : List Str} (hq : ∀ q ∈ qs, NmOk q) (hp : ∀ q ∈ ps, NmOk q) : ∀ t : Err, t.over qs ps → t.tst TOk → (tE t).length ≤ 200 * t.size
  | .done, _, _ => by decide +kernel
  | .doo q, h, _ => by
    have := nm_len (hp q h)
    simp only [tE, Err.size]
    omega
  | .often u, h, k => by
    have h1 := tE_len hq hp u h k
    have hw : (G.L "often").length = 5 := by decide +kernel
    simp only [tE, nodT, Err.size, List.length_cons, List.length_append, List.flatMap_cons, List.flatMap_nil, List.append_nil, List.length_nil]
    omega
  | .whl t u, h, k => by
    have h0 := tT_len hq t h.1
    have k0 := k.1.1
    have h1 := tE_len hq hp u h.2 k.2
    have hw : (G.L "while").length = 5 := by decide +kernel
    simp only [tE, nodT, Err.size, List.length_cons, List.length_append, List.flatMap_cons, List.flatMap_nil, List.append_nil, List.length_nil]
    omega
  | .thn u v, h, k => by
    have h1 := tE_len hq hp u h.1 k.1
    have h2 := tE_len hq hp v h.2 k.2
    have hw : (G.L "then").length = 4 := by decide +kernel
    simp only [tE, nodT, Err.size, List.length_cons, List.length_append, List.flatMap_cons, List.flatMap_nil, List.append_nil, List.length_nil]
    omega
  | .iff t u v, h, k => by
    have h0 := tT_len hq t h.1
    have k0 := k.1.1
    have h1 := tE_len hq hp u h.2.1 k.2.1
    have h2 := tE_len hq hp v h.2.2 k.2.2
    have hw : (G.L "if").length = 2 := by decide +kernel
    simp only [tE, nodT, Err.size, List.length_cons, List.length_append, List.flatMap_cons, List.flatMap_nil, List.append_nil, List.length_nil]
    omega
  | .eth u v, h, k => by
    have h1 := tE_len hq hp u h.1 k.1
    have h2 := tE_len hq hp v h.2 k.2
    have hw : (G.L "either").length = 6 := by decide +kernel
    simp only [tE, nodT, Err.size, List.length_cons, List.length_append, List.flatMap_cons, List.flatMap_nil, List.append_nil, List.length_nil]
    omega
theorem fw_rightE {T : Str} (hT : T.length ≤ 90000) {A : O → List O → Prop} {B : Exn → Prop} (k : A (.d (.bool true)) [.d (.str T), .d (.str "e")]) : FW (f_law_right [.d (.str T), .d (.str "e")]) A B := by
  have told := told_E (l := G.L T)
  refine fwRun ?_
  unfold g_law_right
  bv_omega
  refine fw_readErrandA (by omega) (fun t ht => ?_) (fun hn => ?_)
  · obtain ⟨h1, h2, h3⟩ := pE_spec ht
    rw [List.append_nil] at h1
    obtain ⟨d1, d2⟩ := brE_deep t
    have hl : (tE t).length ≤ 90000 := by rw [← h1]; have : (G.L T).length = T.length := by simp [G.L, Str.length]
                                          omega
    have eT : (⟨(tE t).toArray⟩ : Str) = T := by rw [← h1]; exact str_L T
    bv_omega
    refine fw_errandSaid (qs := ens t) (ps := ens t) (by omega) (ens_over fun q m => m) h2 (by omega) (Err.tst_mono (fun u hu => by omega) d2) ?_
    rw [eT]
    bv_omega
    change FW (f_law_told [.d (.str T), .d (.str (sS false))]) _ _
    refine fw_ltold hT fun b hb => ?_
    obtain rfl : b = true := hb.mpr (told.mpr ⟨t, ht⟩)
    bv_omega
    rw [show Z.isNon PyData.none = true from rfl]
    bv_omega
    rw [decide_eq_true rfl]
    exact k
  · unfold xB
    bv_omega
    change FW (f_law_told [.d (.str T), .d (.str (sS false))]) _ _
    refine fw_ltold hT fun b hb => ?_
    have hb2 : b = false := by
      cases b with
      | false => rfl
      | true =>
        obtain ⟨t, ht⟩ := told.mp (hb.mp rfl)
        exact (hn t ht).elim
    subst hb2
    bv_omega
    exact k
theorem fw_rightT {T : Str} (hT : T.length ≤ 90000) {A : O → List O → Prop} {B : Exn → Prop} (k : A (.d (.bool true)) [.d (.str T), .d (.str "t")]) : FW (f_law_right [.d (.str T), .d (.str "t")]) A B := by
  have told := told_T (l := G.L T)
  refine fwRun ?_
  unfold g_law_right
  bv_omega
  refine fw_readTestA (by omega) (fun t ht => ?_) (fun hn => ?_)
  · obtain ⟨h1, h2, h3⟩ := pT_spec ht
    rw [List.append_nil] at h1
    have hl : (tT t).length ≤ 90000 := by rw [← h1]; have : (G.L T).length = T.length := by simp [G.L, Str.length]
                                          omega
    have eT : (⟨(tT t).toArray⟩ : Str) = T := by rw [← h1]; exact str_L T
    bv_omega
    refine fw_testSaid (qs := tns t) (by omega) (tns_over fun q m => m) h2 (by omega) ?_
    rw [eT]
    bv_omega
    change FW (f_law_told [.d (.str T), .d (.str (sS true))]) _ _
    refine fw_ltold hT fun b hb => ?_
    obtain rfl : b = true := hb.mpr (told.mpr ⟨t, ht⟩)
    bv_omega
    rw [show Z.isNon PyData.none = true from rfl]
    bv_omega
    rw [decide_eq_true rfl]
    exact k
  · unfold xB
    bv_omega
    change FW (f_law_told [.d (.str T), .d (.str (sS true))]) _ _
    refine fw_ltold hT fun b hb => ?_
    have hb2 : b = false := by
      cases b with
      | false => rfl
      | true =>
        obtain ⟨t, ht⟩ := told.mp (hb.mp rfl)
        exact (hn t ht).elim
    subst hb2
    bv_omega
    exact k
theorem law_true : ∀ ns : List Int, ns.length ≤ 63 → trueF f_law ns := by
  intro ns hns
  have main : FW (f_law [.gL (ns.map PyData.int)]) (fun r ps => r = .d (.bool true) ∧ ps.length = 1) (fun _ => False) := by
    refine fwRun ?_
    unfold g_law
    bv_omega
    refine wp_forN (fun i g => ∃ (o1 o2 o3 o4 o5 o6 o7 o8 o9 o10 : Option O), g = [some (.gL (ns.map PyData.int)), o1, o2, o3, o4, o5, o6, o7, o8, o9, o10]) ?_ ?_ ⟨none, none, none, none, none, none, none, none, none, none, rfl⟩
    · rintro g ⟨o1, o2, o3, o4, o5, o6, o7, o8, o9, o10, eg⟩
      subst eg
      bv_omega
      exact ⟨rfl, rfl⟩
    · rintro i g i0 i1 ⟨o1, o2, o3, o4, o5, o6, o7, o8, o9, o10, eg⟩
      subst eg
      bv_omega
      intro c s
      sizeOf_list_dec
      refine wp_lcB PyData.str NmOk (fun g => ∃ (c s : Int) (o10 : Option O), g = [some (.gL (ns.map PyData.int)), some (.d (.int i)), some (.lst [.d (.int c), .d (.int s)]), o3, o4, o5, o6, o7, o8, o9, o10]) ?_ ?_ ⟨_, _, _, rfl⟩
      · rintro qs g hq1 hq2 ⟨c, s, o10', eg⟩
        subst eg
        sizeOf_list_dec
        refine wp_lcB PyData.str NmOk (fun g => ∃ (c s : Int) (o10 : Option O), g = [some (.gL (ns.map PyData.int)), some (.d (.int i)), some (.lst [.d (.int c), .d (.int s)]), o3, o4, o5, o6, o7, o8, o9, o10]) ?_ ?_ ⟨_, _, _, rfl⟩
        · rintro ps g hp1 hp2 ⟨c, s, o10', eg⟩
          simp only [intsF_len] at hq1 hp1
          subst eg
          bv_omega
          intro x c s x0 x1
          bv_omega
          intro y c s y0 y1
          bv_omega
          have lq : qs.length ≤ 1000 := by omega
          have lp : ps.length ≤ 1000 := by omega
          refine fw_any (qs := qs) (ps := ps) (deep := 8) (l0 := x) (l1 := y) lq lp (by omega) (by omega) (by omega) (by omega) (by omega) fun e c s m0 m1 b1 b2 b3 b4 b5 => ?_
          have l1 := tE_len hq2 hp2 e b4.1 b5
          have z1 : (e.size : Int) + m0 ≤ x + 1 := b2
          have z2 : (e.deep : Int) ≤ 8 + 1 := b3
          have hk2 : e.tst fun t => t.deep ≤ 12 := Err.tst_mono (fun t h => h.2) b5
          bv_omega
          refine fw_errandSaid (by omega) b4.1 hq2 (by omega) hk2 ?_
          have len_mk : ∀ l : List Nat, (⟨l.toArray⟩ : Str).length = l.length := fun l => by simp [Str.length]
          have hE : (⟨(tE e).toArray⟩ : Str).length ≤ 2600 := by rw [len_mk]; omega
          generalize (⟨(tE e).toArray⟩ : Str) = good at hE
          array_get_dec
          refine wp_jn (fun g => ∃ (c s : Int) (good : Str), good.length ≤ 2600 ∧ g = [some (.gL (ns.map PyData.int)), some (.d (.int i)), some (.lst [.d (.int c), .d (.int s)]), some (.d (.tuple [.list (qs.map PyData.str), .list (ps.map PyData.str)])), some (.d (.str good)), o5, o6, o7, o8, o9, o10]) ?_ ?_
          · bv_omega
            intro z c s z0 z1
            bv_omega
            refine IfK.dec (fun _ => ?_) (fun _ => ?_)
            · bv_omega
              refine fw_anyT (qs := qs) (room := 7) (deep := 6) (by omega) (by omega) (by omega) lq fun t c s c1 c2 c3 => ?_
              have l2 := tT_len hq2 t c3
              bv_omega
              refine fw_testSaid (by omega) c3 hq2 (by omega) ?_
              bv_omega
              exact ⟨_, _, _, by rw [len_mk]; omega, rfl⟩
            · bv_omega
              exact ⟨_, _, _, hE, rfl⟩
          · rintro g ⟨c, s, good, hgood, eg⟩
            subst eg
            bv_omega
            intro rr c s r0 r1
            bv_omega
            refine wp_forN (fun i2 g => ∃ (c s : Int) (z : Str) (o6 : Option O), (z.length ≤ 70369 ∧ (i2 ≤ 2 → z.length ≤ 23452) ∧ (i2 ≤ 1 → z.length ≤ 7813) ∧ (i2 ≤ 0 → z.length ≤ 2600)) ∧ g = [some (.gL (ns.map PyData.int)), some (.d (.int i)), some (.lst [.d (.int c), .d (.int s)]), some (.d (.tuple [.list (qs.map PyData.str), .list (ps.map PyData.str)])), some (.d (.str good)), some (.d (.str z)), o6, o7, o8, o9, o10]) ?_ ?_ ⟨_, _, _, _, ⟨by omega, fun _ => by omega, fun _ => by omega, fun _ => hgood⟩, rfl⟩
            · rintro g ⟨c, s, z, o6, ⟨hz, _, _, _⟩, eg⟩
              subst eg
              bv_omega
              intro dd c s d0 d1
              have b1 : ("(often " : Str).length = 7 := rfl
              have b2 : (")" : Str).length = 1 := rfl
              have b3 : ("(not " : Str).length = 5 := rfl
              have r1 := rep_len "(often " (7 + dd).toNat
              have r2 := rep_len ")" (7 + dd).toNat
              have r3 := rep_len "(not " (7 + dd).toNat
              have r4 := rep_len "(often " (7 + dd - 2).toNat
              have r5 := rep_len ")" (7 + dd - 2).toNat
              rw [b1] at r1 r4
              rw [b2] at r2 r5
              rw [b3] at r3
              have b4 : ("q" : Str).length = 1 := rfl
              have b5 : ("yes" : Str).length = 3 := rfl
              have b6 : ("(while (not q) done)" : Str).length = 20 := rfl
              have b7 : ("\n" : Str).length = 1 := rfl
              bv_omega
              have t1l : (repS "(often " (7 + dd).toNat ++ "q" ++ repS ")" (7 + dd).toNat : Str).length ≤ 200 := by simp only [Z.len_app]; omega
              have t2l : (repS "(not " (7 + dd).toNat ++ "yes" ++ repS ")" (7 + dd).toNat : Str).length ≤ 200 := by simp only [Z.len_app]; omega
              have t3l : (repS "(often " (7 + dd - 2).toNat ++ "(while (not q) done)" ++ repS ")" (7 + dd - 2).toNat : Str).length ≤ 200 := by simp only [Z.len_app]; omega
              have t4l : (good ++ "\n" : Str).length ≤ 3000 := by simp only [Z.len_app]; omega
              generalize (repS "(often " (7 + dd).toNat ++ "q" ++ repS ")" (7 + dd).toNat : Str) = t1 at t1l
              generalize (repS "(not " (7 + dd).toNat ++ "yes" ++ repS ")" (7 + dd).toNat : Str) = t2 at t2l
              generalize (repS "(often " (7 + dd - 2).toNat ++ "(while (not q) done)" ++ repS ")" (7 + dd - 2).toNat : Str) = t3 at t3l
              bv_omega
              refine fw_rightE (by omega) ?_
              bv_omega
              refine fw_rightT (by omega) ?_
              bv_omega
              iterate 6
                refine fw_rightE (by omega) ?_
                bv_omega
                refine fw_rightT (by omega) ?_
                bv_omega
              exact ⟨_, _, _, _, _, _, _, _, _, _, rfl⟩
            · rintro i2 g j0 j1 ⟨c, s, z, o6, ⟨hz0, hz1, hz2, hz3⟩, eg⟩
              have h3 := hz1 (by omega)
              subst eg
              bv_omega
              refine fw_lspoilt (by omega) fun z' c s hz' => ?_
              bv_omega
              refine ⟨_, _, _, _, ⟨by omega, fun _ => by have := hz2 (by omega); omega, fun _ => by have := hz3 (by omega); omega, fun _ => by omega⟩, rfl⟩
        · rintro d hd g ⟨c, s, o10, eg⟩
          subst eg
          bv_omega
          intro z c s hz
          bv_omega
          exact ⟨z, rfl, hz, c, s, _, rfl⟩
      · rintro d hd g ⟨c, s, o10, eg⟩
        subst eg
        bv_omega
        intro z c s hz
        bv_omega
        exact ⟨z, rfl, hz, c, s, _, rfl⟩
  exact main
end Lawk14
open PySem PySem.W PyProof.Rows
set_option maxRecDepth 100000 in
set_option maxHeartbeats 0 in
theorem PySem.Challenge.cw_unsaidways_k14_texts_of_no_errand_or_tes_holds : PySem.Challenge.rw_unsaidways_k14_texts_of_no_errand_or_tes.Holds := by
  w_on; o_law; k_head; (case hw => w_witness2)
  k_fill
  refine Z.zwalk (l := PySem.Challenge.rw_unsaidways_k14_texts_of_no_errand_or_tes) (x := "_law_script") 32 rfl rfl ⟨rfl, by decide, by decide⟩ Lawk14.law_true (fun w h Y => PySem.W.kIn_of Y) ?F
  case F =>
    intro w mg fa h KX G hmg
    refine' Lawk14.all_ok hmg ⟨PySem.W.mg_none_of KX G ?n_all, PySem.W.mg_none_of KX G ?n_bool, PySem.W.mg_none_of KX G ?n_int, PySem.W.mg_none_of KX G ?n_isinstance, PySem.W.mg_none_of KX G ?n_len, PySem.W.mg_none_of KX G ?n_list, PySem.W.mg_none_of KX G ?n_max, PySem.W.mg_none_of KX G ?n_min, PySem.W.mg_none_of KX G ?n_range, PySem.W.mg_none_of KX G ?n_tuple, PySem.W.mg_none_of KX G ?n_zip, Z.gl_int KX G ?g_DEEPEST, Z.gl_dct KX G ?g_ERRANDS ?l_ERRANDS ?e_ERRANDS ?s_ERRANDS ?d_ERRANDS ?z_ERRANDS, Z.gl_str KX G ?g_LETTERS, Z.gl_int KX G ?g_LONGEST, Z.gl_tup KX G ?g_TAKEN ?l_TAKEN ?z_TAKEN ?e_TAKEN, Z.gl_dct KX G ?g_TESTS ?l_TESTS ?e_TESTS ?s_TESTS ?d_TESTS ?z_TESTS, Z.cfAt (Z.clsAt KX G ?aC_Reading ?pg_Reading ?hd_Reading ?po_Reading ?sa_Reading) ?n_Reading_deep, Z.cfAt (Z.clsAt KX G ?aC_Reading ?pg_Reading ?hd_Reading ?po_Reading ?sa_Reading) ?n_Reading_place, Z.cfAt (Z.clsAt KX G ?aC_Reading ?pg_Reading ?hd_Reading ?po_Reading ?sa_Reading) ?n_Reading_row_number, Z.cfAt (Z.clsAt KX G ?aC_Reading ?pg_Reading ?hd_Reading ?po_Reading ?sa_Reading) ?n_Reading_text, ⟨_, (.ty (PySem.W.mg_none_of KX G ?n_ValueError) PyProof.Rows.Boot.«ValueError» .nil), (Z.isCons KX G ?aX_BadText ⟨?ec1_BadText, ?ec2_BadText, ?ec3_BadText, ?ec4_BadText, ?ec5_BadText, ?ec6_BadText, ?ec7_BadText, ?ec8_BadText⟩ ?is_ValueError_BadText Z.isNil)⟩, (Z.xfsCons KX G ?aX_BadText ⟨?ec1_BadText, ?ec2_BadText, ?ec3_BadText, ?ec4_BadText⟩ ?xf_atn_BadText Z.xfsNil), ⟨_, (.own (PySem.W.mg_of KX G ?aX_NoBook) (.own (PySem.W.mg_of KX G ?aX_NoErrand) (.own (PySem.W.mg_of KX G ?aX_NoRow) (.own (PySem.W.mg_of KX G ?aX_NoWay) (.own (PySem.W.mg_of KX G ?aX_NoWorld) (.own (PySem.W.mg_of KX G ?aX_TooMany) .nil)))))), (Z.isCons KX G ?aX_BadText ⟨?ec1_BadText, ?ec2_BadText, ?ec3_BadText, ?ec4_BadText, ?ec5_BadText, ?ec6_BadText, ?ec7_BadText, ?ec8_BadText⟩ ?is_NoBook_NoErrand_NoRow_NoWay_NoWorld_TooMany_BadText Z.isNil)⟩, ⟨_, (.own (PySem.W.mg_of KX G ?aX_BadText) .nil), (Z.isCons KX G ?aX_BadText ⟨?ec1_BadText, ?ec2_BadText, ?ec3_BadText, ?ec4_BadText, ?ec5_BadText, ?ec6_BadText, ?ec7_BadText, ?ec8_BadText⟩ ?is_BadText_BadText Z.isNil)⟩, (Z.hndOf (Z.hndCons KX G ?aX_BadText ?hd_WayError_BadText (Z.hndNil KX G ?aX_WayError))), (Z.xbAt (mc := .type "type") KX G ?aX_WayError ?xb_WayError1 ?xb_WayError2 ?xb_WayError3)⟩ (Z.xmakAt KX G ?aX_BadText ?xl_BadText ?xr_BadText ?xs_BadText ?xsb_BadText ?xty_BadText ?xk_BadText ?i_BadText_init ?tf_BadText_init ?n_BadText_init ?l_BadText_init ?c_BadText_init ?k_BadText_init) (Z.defAt KX G ?a_is_name ?l_is_name ?c_is_name ?k_is_name) (Z.makAt (Z.clsAt KX G ?aC_Reading ?pg_Reading ?hd_Reading ?po_Reading ?sa_Reading) ?mk_Reading ?kc_Reading ?a_Reading_init ?i_Reading_init ?l_Reading_init ?c_Reading_init ?k_Reading_init) (Z.methAt (Z.clsAt KX G ?aC_Reading ?pg_Reading ?hd_Reading ?po_Reading ?sa_Reading) ?a_Reading_need ?i_Reading_need ?l_Reading_need ?c_Reading_need ?k_Reading_need) (Z.methAt (Z.clsAt KX G ?aC_Reading ?pg_Reading ?hd_Reading ?po_Reading ?sa_Reading) ?a_Reading_take ?i_Reading_take ?l_Reading_take ?c_Reading_take ?k_Reading_take) (Z.methAt (Z.clsAt KX G ?aC_Reading ?pg_Reading ?hd_Reading ?po_Reading ?sa_Reading) ?a_Reading_take_word ?i_Reading_take_word ?l_Reading_take_word ?c_Reading_take_word ?k_Reading_take_word) (Z.methAt (Z.clsAt KX G ?aC_Reading ?pg_Reading ?hd_Reading ?po_Reading ?sa_Reading) ?a_Reading_take_head ?i_Reading_take_head ?l_Reading_take_head ?c_Reading_take_head ?k_Reading_take_head) (Z.methAt (Z.clsAt KX G ?aC_Reading ?pg_Reading ?hd_Reading ?po_Reading ?sa_Reading) ?a_Reading_shut ?i_Reading_shut ?l_Reading_shut ?c_Reading_shut ?k_Reading_shut) (Z.methAt (Z.clsAt KX G ?aC_Reading ?pg_Reading ?hd_Reading ?po_Reading ?sa_Reading) ?a_Reading_is_open ?i_Reading_is_open ?l_Reading_is_open ?c_Reading_is_open ?k_Reading_is_open) (Z.methAt (Z.clsAt KX G ?aC_Reading ?pg_Reading ?hd_Reading ?po_Reading ?sa_Reading) ?a_Reading_take_test ?i_Reading_take_test ?l_Reading_take_test ?c_Reading_take_test ?k_Reading_take_test) (Z.methAt (Z.clsAt KX G ?aC_Reading ?pg_Reading ?hd_Reading ?po_Reading ?sa_Reading) ?a_Reading_take_errand ?i_Reading_take_errand ?l_Reading_take_errand ?c_Reading_take_errand ?k_Reading_take_errand) (Z.methAt (Z.clsAt KX G ?aC_Reading ?pg_Reading ?hd_Reading ?po_Reading ?sa_Reading) ?a_Reading_end ?i_Reading_end ?l_Reading_end ?c_Reading_end ?k_Reading_end) (Z.defAt KX G ?a_read_errand ?l_read_errand ?c_read_errand ?k_read_errand) (Z.defAt KX G ?a_read_test ?l_read_test ?c_read_test ?k_read_test) (Z.defAt KX G ?a_law_box ?l_law_box ?c_law_box ?k_law_box) (Z.defAt KX G ?a_law_take ?l_law_take ?c_law_take ?k_law_take) (Z.defAt KX G ?a_law_taken ?l_law_taken ?c_law_taken ?k_law_taken) (Z.defAt KX G ?a_law_name ?l_law_name ?c_law_name ?k_law_name) (Z.defAt KX G ?a_law_any_test ?l_law_any_test ?c_law_any_test ?k_law_any_test) (Z.defAt KX G ?a_law_leaf ?l_law_leaf ?c_law_leaf ?k_law_leaf) (Z.defAt KX G ?a_law_any_errand ?l_law_any_errand ?c_law_any_errand ?k_law_any_errand) (Z.defAt KX G ?a_law_test_said ?l_law_test_said ?c_law_test_said ?k_law_test_said) (Z.defAt KX G ?a_law_errand_said ?l_law_errand_said ?c_law_errand_said ?k_law_errand_said) (Z.defAt KX G ?a_law_is_name ?l_law_is_name ?c_law_is_name ?k_law_is_name) (Z.defAt KX G ?a_law_is_part ?l_law_is_part ?c_law_is_part ?k_law_is_part) (Z.defAt KX G ?a_law_bracket ?l_law_bracket ?c_law_bracket ?k_law_bracket) (Z.defAt KX G ?a_law_told ?l_law_told ?c_law_told ?k_law_told) (Z.defAt KX G ?a_law_signs ?l_law_signs ?c_law_signs ?k_law_signs) (Z.defAt KX G ?a_law_spoilt ?l_law_spoilt ?c_law_spoilt ?k_law_spoilt) (Z.defAt KX G ?a_law_right ?l_law_right ?c_law_right ?k_law_right) (Z.defAt KX G ?a_law ?l_law ?c_law ?k_law)
    case aX_BadText => k_is
    case aX_TooMany => k_is
    case aX_NoWorld => k_is
    case aX_NoWay => k_is
    case aX_NoRow => k_is
    case aX_NoErrand => k_is
    case aX_NoBook => k_is
    case aX_WayError => k_is
    case aC_Reading => k_is
    case pg_Reading => k_is
    case hd_Reading => k_is
    case po_Reading => k_is
    case sa_Reading => k_is
    case mk_Reading => k_is
    case kc_Reading => k_is
    case n_all => k_is
    case n_bool => k_is
    case n_int => k_is
    case n_isinstance => k_is
    case n_len => k_is
    case n_list => k_is
    case n_max => k_is
    case n_min => k_is
    case n_range => k_is
    case n_tuple => k_is
    case n_zip => k_is
    case g_DEEPEST => k_is
    case g_ERRANDS => k_is
    case l_ERRANDS => k_is
    case s_ERRANDS => decide +kernel
    case e_ERRANDS => exact ⟨⟨rfl, ⟨_, rfl⟩, ⟨_, rfl⟩⟩, ⟨⟨rfl, ⟨_, rfl⟩, ⟨_, rfl⟩⟩, ⟨⟨rfl, ⟨_, rfl⟩, ⟨_, rfl⟩⟩, ⟨⟨rfl, ⟨_, rfl⟩, ⟨_, rfl⟩⟩, ⟨⟨rfl, ⟨_, rfl⟩, ⟨_, rfl⟩⟩, trivial⟩⟩⟩⟩⟩
    case d_ERRANDS => decide +kernel
    case z_ERRANDS => decide +kernel
    case g_LETTERS => k_is
    case g_LONGEST => k_is
    case g_TAKEN => k_is
    case l_TAKEN => k_is
    case z_TAKEN => decide +kernel
    case e_TAKEN => rfl
    case g_TESTS => k_is
    case l_TESTS => k_is
    case s_TESTS => decide +kernel
    case e_TESTS => exact ⟨⟨rfl, ⟨_, rfl⟩, ⟨_, rfl⟩⟩, ⟨⟨rfl, ⟨_, rfl⟩, ⟨_, rfl⟩⟩, ⟨⟨rfl, ⟨_, rfl⟩, ⟨_, rfl⟩⟩, trivial⟩⟩⟩
    case d_TESTS => decide +kernel
    case z_TESTS => decide +kernel
    case n_Reading_deep => k_is
    case n_Reading_place => k_is
    case n_Reading_row_number => k_is
    case n_Reading_text => k_is
    case n_ValueError => k_is
    case ec1_BadText => k_is
    case ec2_BadText => k_is
    case ec3_BadText => k_is
    case ec4_BadText => k_is
    case ec5_BadText => k_is
    case ec6_BadText => k_is
    case ec7_BadText => k_is
    case ec8_BadText => k_is
    case is_ValueError_BadText => first | kit_is | k_is
    case xf_atn_BadText => k_is
    case is_NoBook_NoErrand_NoRow_NoWay_NoWorld_TooMany_BadText => first | kit_is | k_is
    case is_BadText_BadText => first | kit_is | k_is
    case hd_WayError_BadText => first | kts_exm | k_is
    case xb_WayError1 => k_is
    case xb_WayError2 => k_is
    case xb_WayError3 => k_is
    case xl_BadText => k_is
    case xr_BadText => decide +kernel
    case xs_BadText => k_is
    case xsb_BadText => k_is
    case xty_BadText => k_is
    case xk_BadText => k_is
    case i_BadText_init => k_is
    case tf_BadText_init => k_is
    case n_BadText_init => k_is
    case l_BadText_init => k_is
    case c_BadText_init => k_is
    case k_BadText_init => k_is
    case a_is_name => k_is
    case l_is_name => k_is
    case c_is_name => k_is
    case k_is_name => k_is
    case a_Reading_init => k_is
    case i_Reading_init => k_is
    case l_Reading_init => k_is
    case c_Reading_init => k_is
    case k_Reading_init => k_is
    case a_Reading_need => k_is
    case i_Reading_need => k_is
    case l_Reading_need => k_is
    case c_Reading_need => k_is
    case k_Reading_need => k_is
    case a_Reading_take => k_is
    case i_Reading_take => k_is
    case l_Reading_take => k_is
    case c_Reading_take => k_is
    case k_Reading_take => k_is
    case a_Reading_take_word => k_is
    case i_Reading_take_word => k_is
    case l_Reading_take_word => k_is
    case c_Reading_take_word => k_is
    case k_Reading_take_word => k_is
    case a_Reading_take_head => k_is
    case i_Reading_take_head => k_is
    case l_Reading_take_head => k_is
    case c_Reading_take_head => k_is
    case k_Reading_take_head => k_is
    case a_Reading_shut => k_is
    case i_Reading_shut => k_is
    case l_Reading_shut => k_is
    case c_Reading_shut => k_is
    case k_Reading_shut => k_is
    case a_Reading_is_open => k_is
    case i_Reading_is_open => k_is
    case l_Reading_is_open => k_is
    case c_Reading_is_open => k_is
    case k_Reading_is_open => k_is
    case a_Reading_take_test => k_is
    case i_Reading_take_test => k_is
    case l_Reading_take_test => k_is
    case c_Reading_take_test => k_is
    case k_Reading_take_test => k_is
    case a_Reading_take_errand => k_is
    case i_Reading_take_errand => k_is
    case l_Reading_take_errand => k_is
    case c_Reading_take_errand => k_is
    case k_Reading_take_errand => k_is
    case a_Reading_end => k_is
    case i_Reading_end => k_is
    case l_Reading_end => k_is
    case c_Reading_end => k_is
    case k_Reading_end => k_is
    case a_read_errand => k_is
    case l_read_errand => k_is
    case c_read_errand => k_is
    case k_read_errand => k_is
    case a_read_test => k_is
    case l_read_test => k_is
    case c_read_test => k_is
    case k_read_test => k_is
    case a_law_box => k_is
    case l_law_box => k_is
    case c_law_box => k_is
    case k_law_box => k_is
    case a_law_take => k_is
    case l_law_take => k_is
    case c_law_take => k_is
    case k_law_take => k_is
    case a_law_taken => k_is
    case l_law_taken => k_is
    case c_law_taken => k_is
    case k_law_taken => k_is
    case a_law_name => k_is
    case l_law_name => k_is
    case c_law_name => k_is
    case k_law_name => k_is
    case a_law_any_test => k_is
    case l_law_any_test => k_is
    case c_law_any_test => k_is
    case k_law_any_test => k_is
    case a_law_leaf => k_is
    case l_law_leaf => k_is
    case c_law_leaf => k_is
    case k_law_leaf => k_is
    case a_law_any_errand => k_is
    case l_law_any_errand => k_is
    case c_law_any_errand => k_is
    case k_law_any_errand => k_is
    case a_law_test_said => k_is
    case l_law_test_said => k_is
    case c_law_test_said => k_is
    case k_law_test_said => k_is
    case a_law_errand_said => k_is
    case l_law_errand_said => k_is
    case c_law_errand_said => k_is
    case k_law_errand_said => k_is
    case a_law_is_name => k_is
    case l_law_is_name => k_is
    case c_law_is_name => k_is
    case k_law_is_name => k_is
    case a_law_is_part => k_is
    case l_law_is_part => k_is
    case c_law_is_part => k_is
    case k_law_is_part => k_is
    case a_law_bracket => k_is
    case l_law_bracket => k_is
    case c_law_bracket => k_is
    case k_law_bracket => k_is
    case a_law_told => k_is
    case l_law_told => k_is
    case c_law_told => k_is
    case k_law_told => k_is
    case a_law_signs => k_is
    case l_law_signs => k_is
    case c_law_signs => k_is
    case k_law_signs => k_is
    case a_law_spoilt => k_is
    case l_law_spoilt => k_is
    case c_law_spoilt => k_is
    case k_law_spoilt => k_is
    case a_law_right => k_is
    case l_law_right => k_is
    case c_law_right => k_is
    case k_law_right => k_is
    case a_law => k_is
    case l_law => k_is
    case c_law => k_is
    case k_law => k_is
#print axioms PySem.Challenge.cw_unsaidways_k14_texts_of_no_errand_or_tes_holds
