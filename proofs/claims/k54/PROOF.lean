import PyProof.Rows.All
import Wide.All
import OpenK.AllK
import Wide.FinOn
import HandS.TupMul
import HandS.ForMost
import HandS.ForExc
import HandS.Walk
import HandS.Zip
import HandS.TupAny
import KE.DataFind
import KE.KeyNested
import HandS.TupLen
import HandS.SortInts
import HandS.SortKw
import KE.DataCmp
import HandS.Wide
import HandS.TupLe
import HandS.Style
import HandS.IsInst
import HandS.Conv
import KE.KTupSum
import HandS.StrSplit
import HandS.TryMany
import HandS.ExcInit
import HandS.ExcIs
import HandS.ExcField
import HandS.HotCalls
import KE.GoesNew
import KE.GoesEnum
import KE.GoesEnumKw
import KE.GoesMore
import HandS.SetFor
import HandS.Deep
import HandS.Dict
import HandS.More
import HandS.Iter
import HandS.TupSets
import KE.GoesRaise
import KE.SortData
import KE.KIntText
import KE.IntTextLaws
import PyProof.StrLawsTight
import PyProof.StrLawsChain
import PyProof.Rows.StrBin
import PyProof.Rows.ReprOcc
import PyProof.StrBlock2
import HandS.Replace
import PyProof.Rows.RegReprOcc
import HandS.ReplaceLit
import HandS.HeadHook3
import HandS.SuiteRaise
import HandS.RaiseFrom
import HandS.FStr
import KE.IntTextText
import HandS.Defaults
import HandS.Head0
import HandS.Head1
import HandS.Head2
import HandS.HeadEnd
import HandS.HeadHook1
import HandS.HeadHook2
import KE.KRevSl
import HandS.RaiseMore
import HandS.CallSlots
import PySem.Challenge.RW_shutpairs_k54_whole_each_walk_leads_back
set_option Elab.async false
set_option linter.all false
set_option maxRecDepth 100000
set_option maxHeartbeats 4000000
/-! tuples whose object is known to have no dict of its own (so that their methods can be called) -/
namespace Dt
open PySem PySem.Spec PyProof.Rows L2
/-- a new tuple of xs -/
def NewT (H : Hp) (Q : VK) (xs : List V) : Prop := ∀ (q : Addr) (o : Obj), H q = none → o.dict = none → Q (.ref q) (upd H q (.frz o (.tup xs)))
end Dt

/-! dicts whose keys are tuples of ints and of such tuples -/
namespace Dt
open PySem PySem.Spec PyProof.Rows L2
abbrev NK := NestedKey
mutual
/-- the value is that key (ints, and tuples that never change) -/
inductive NkV (H : Hp) : V → NK → Prop
  | int (i : Int) : NkV H (.int i) (.num i)
  | tup {a : Addr} {o : Obj} {xs : List V} {ks : List NK} : H a = some (.frz o (.tup xs)) → NkVs H xs ks → NkV H (.ref a) (.tup ks)
inductive NkVs (H : Hp) : List V → List NK → Prop
  | nil : NkVs H [] []
  | cons {v : V} {vs : List V} {k : NK} {ks : List NK} : NkV H v k → NkVs H vs ks → NkVs H (v :: vs) (k :: ks)
end
mutual
theorem NkV.keep {H H' : Hp} (e : ∀ a o xs, H a = some (.frz o (.tup xs)) → H' a = some (.frz o (.tup xs))) : ∀ {v : V} {k : NK}, NkV H v k → NkV H' v k
  | _, _, .int i => .int i
  | _, _, .tup h hs => .tup (e _ _ _ h) (NkVs.keep e hs)
theorem NkVs.keep {H H' : Hp} (e : ∀ a o xs, H a = some (.frz o (.tup xs)) → H' a = some (.frz o (.tup xs))) : ∀ {vs : List V} {ks : List NK}, NkVs H vs ks → NkVs H' vs ks
  | _, _, .nil => .nil
  | _, _, .cons h hs => .cons (NkV.keep e h) (NkVs.keep e hs)
end
mutual
theorem NkV.hash {H : Hp} (w w' : World) : ∀ {v : V} {k : NK}, NkV H v k → k.hash w = k.hash w'
  | _, _, .int i => by rw [NestedKey.hash, NestedKey.hash]
  | _, _, .tup h hs => by rw [NestedKey.hash, NestedKey.hash, NkVs.hash w w' hs]
theorem NkVs.hash {H : Hp} (w w' : World) : ∀ {vs : List V} {ks : List NK}, NkVs H vs ks → NestedKey.hashes w ks = NestedKey.hashes w' ks
  | _, _, .nil => by rw [NestedKey.hashes, NestedKey.hashes]
  | _, _, .cons h hs => by rw [NestedKey.hashes, NestedKey.hashes, NkV.hash w w' h, NkVs.hash w w' hs]
end
mutual
theorem NkV.is {P : Program} {w : World} {H : Hp} {h : Heap} (ok : HOk P w H h) : ∀ {v : V} {k : NK} {u : Value}, NkV H v k → RelV v u → NestedIs h k u
  | _, _, _, .int i, r => by
    obtain ⟨t, rfl⟩ := r
    exact .int i t
  | _, _, _, .tup (a := a) (o := o) (xs := xs) e hs, r => by
    cases r
    obtain ⟨h1, _, its, rv, o', h2, h3, n, h4⟩ := (show ObjOk P w H h a (.frz o (.tup xs)) from ok a _ e)
    exact .tup h2 h3 h4 (by simpa using NkVs.is ok hs rv)
theorem NkVs.is {P : Program} {w : World} {H : Hp} {h : Heap} (ok : HOk P w H h) : ∀ {vs : List V} {ks : List NK} {us : List Value}, NkVs H vs ks → Vals vs us → NestedAll h ks us
  | _, _, _, .nil, r => by cases r; exact .nil
  | _, _, _, .cons q qs, r => by
    cases r with
    | cons r rs => exact .cons (NkV.is ok q r) (NkVs.is ok qs rs)
end
/-- an entry and what it stands for -/
abbrev NV (x : NK × Addr × V) (v : NK × Addr × Value) : Prop := x.1 = v.1 ∧ x.2.1 = v.2.1 ∧ RelV x.2.2 v.2.2
def nkE (w : World) (v : NK × Addr × Value) : DictEntry := ⟨v.1.hash w, .ref v.2.1, v.2.2⟩
/-- the object of such a dict, by its entries -/
def nkO (a : Addr) (xs : List (NK × Addr × V)) : HO := .ext fun h => ∃ (w : World) (o : Obj) (es : Array DictEntry) (ep : Nat) (vs : List (NK × Addr × Value)), h.get? a = some o ∧ o.ExactDict ∧ o.data = .dict es ep ∧ es.toList = vs.map (nkE w) ∧ (vs.map (·.1)).Nodup ∧ Paired NV xs vs ∧ (a == sysModules) = false ∧ xs.length ≤ sizeLine
def NkD (H : Hp) (a : Addr) (xs : List (NK × Addr × V)) : Prop := H a = some (nkO a xs) ∧ ∀ x ∈ xs, NkV H (.ref x.2.1) x.1 ∧ x.1.depth ≤ 8
theorem pairNV_mem : ∀ {xs : List (NK × Addr × V)} {vs : List (NK × Addr × Value)}, Paired NV xs vs → ∀ v ∈ vs, ∃ x ∈ xs, NV x v
  | _, _, .nil, v, h => by simp at h
  | _, _, .cons r rs, v, h => by
    rcases List.mem_cons.mp h with rfl | h
    · exact ⟨_, List.mem_cons_self, r⟩
    · obtain ⟨x, hx, q⟩ := pairNV_mem rs v h
      exact ⟨x, List.mem_cons_of_mem _ hx, q⟩
/-- as the model's rules want it -/
theorem NkD.dict {P : Program} {w : World} {H : Hp} {h : Heap} {a : Addr} {xs : List (NK × Addr × V)} (ok : HOk P w H h) (d : NkD H a xs) : ∃ vs, Paired NV xs vs ∧ (a == sysModules) = false ∧ xs.length ≤ sizeLine ∧ h.DictOfH (nestedKind P w) a vs := by
  obtain ⟨⟨w', o, es, ep, vs, h1, h2, h3, h4, h5, h6, h7, h8⟩, _⟩ := (show ObjOk P w H h a (nkO a xs) from ok a _ d.1)
  refine ⟨vs, h6, h7, h8, o, es, ep, h1, h2, h3, ?_, fun v hv => ?_, h5⟩
  · rw [h4]
    refine List.map_congr_left fun v hv => ?_
    obtain ⟨x, hx, e1, e2, e3⟩ := pairNV_mem h6 v hv
    have := (d.2 x hx).1.hash w' w
    rw [e1] at this
    show (⟨v.1.hash w', .ref v.2.1, v.2.2⟩ : DictEntry) = ⟨v.1.hash w, .ref v.2.1, v.2.2⟩
    rw [this]
  · obtain ⟨x, hx, e1, e2, e3⟩ := pairNV_mem h6 v hv
    have := (d.2 x hx)
    rw [e1, e2] at this
    exact ⟨this.1.is ok rfl, this.2⟩
def valX (xs : List (NK × Addr × V)) (k : NK) : Option V := (xs.find? fun x => decide (x.1 = k)).map (·.2.2)
def putX (xs : List (NK × Addr × V)) (k : NK) (b : Addr) (v : V) : List (NK × Addr × V) := if (xs.any fun x => decide (x.1 = k)) = true then xs.map fun x => if x.1 = k then (x.1, x.2.1, v) else x else xs ++ [(k, b, v)]
theorem putX_mem {xs : List (NK × Addr × V)} {k : NK} {b : Addr} {v : V} {x : NK × Addr × V} (h : x ∈ putX xs k b v) : (∃ y ∈ xs, x.1 = y.1 ∧ x.2.1 = y.2.1) ∨ (x.1 = k ∧ x.2.1 = b) := by
  unfold putX at h
  split at h
  · obtain ⟨y, hy, rfl⟩ := List.mem_map.mp h
    refine .inl ⟨y, hy, ?_⟩
    split <;> exact ⟨rfl, rfl⟩
  · rcases List.mem_append.mp h with h | h
    · exact .inl ⟨x, h, rfl, rfl⟩
    · rw [List.mem_singleton.mp h]
      exact .inr ⟨rfl, rfl⟩
section
variable {X : Cx} {pins : List (Addr × Obj)} {σ : L2.St} {H : Hp} {s : Shared} {a b : Addr} {v z : V} {u r : Value} {A : Around} {E : Value → Shared → Prop} {xs : List (NK × Addr × V)} {k : NK}
theorem NkD.put (d : NkD H a xs) (hk : NkV H (.ref b) k) (h8 : k.depth ≤ 8) (v : V) : NkD (upd H a (nkO a (putX xs k b v))) a (putX xs k b v) := by
  have kp : ∀ c o ys, H c = some (.frz o (.tup ys)) → upd H a (nkO a (putX xs k b v)) c = some (.frz o (.tup ys)) := fun c o ys e => by
    rw [upd_ne (ne_of e d.1 (by intro z; unfold nkO at z; cases z))]
    exact e
  refine ⟨upd_same, fun x hx => ?_⟩
  rcases putX_mem hx with ⟨y, hy, e1, e2⟩ | ⟨e1, e2⟩
  · rw [e1, e2]
    exact ⟨(d.2 y hy).1.keep kp, (d.2 y hy).2⟩
  · rw [e1, e2]
    exact ⟨hk.keep kp, h8⟩
end
end Dt

namespace Dt
open PySem PySem.Spec PyProof.Rows L2

abbrev D := PyData
/-- owned contents -/
inductive C where
  | lst (ds : List D)
  | dic (kvs : List (Key × D))
  | dcN (kvs : List (NK × D))
  | st (b : Nat)
  /-- class Desk: held, past, ahead -/
  | desk (h : D) (ps qs : List D)
  /-- a list of lists -/
  | ll (dss : List (List D))
/-- the program's exception classes -/
def exN : Nat → Str
  | 0 => "ShutError" | 1 => "ValueError" | 2 => "NotIn" | 3 => "NoText" | 4 => "NoRule" | 5 => "NoSum" | 6 => "NoPlace" | 7 => "NoPair" | 8 => "NotPaired" | 9 => "NotSoMany" | 10 => "NotStrict" | 11 => "LeftOver"
  | 12 => "NoBottom" | 13 => "NoLanes" | 14 => "TooGreat" | 15 => "NoLine" | 16 => "NothingLeft" | 17 => "NoHeap" | 18 => "NotKept" | 19 => "Unmatched" | 20 => "TooLong" | _ => "NoName"
/-- class a is class b or stands beneath it -/
def subX (a b : Nat) : Bool := a == b || b == 0 || b == 1
structure Exn where
  nm : Nat
  fs : List (Str × D)
/-- a slot -/
inductive S where
  | d (v : D)
  | own (c : C)
  | lent (a : Addr) (c : C)
  | exc (x : Exn)
/-- a result -/
inductive O where
  | d (v : D)
  | tmp (c : C)
  | loc (j : Nat)
  | exc (x : Exn)
abbrev Rho := List (Option S)
abbrev Lab := Addr → Option Nat
/-- what everything hangs on: the written part, the module's names, the exceptions that are in hand (value, class's name, own dict) -/
structure Pm where
  K : PySem.W.Frag
  mg : Str → Option Value
  G : V → Nat → Option Addr → Prop
/-! ### data in a heap that never changes -/
def keyD : Key → D
  | .inl i => .int i
  | .inr x => .str x
/-- the script: frozen, or the module's -/
def ScrL (K : PySem.W.Frag) (H : Hp) (a : Addr) (xs : List V) : Prop :=
  (∃ o, H a = some (.frz o (.lst xs))) ∨ ∃ (o : Obj) (its : Array Value) (n : Nat), K.lookup a = some o ∧ o.cls = .type "list" ∧ o.dict = none ∧ o.data = .seq its n ∧ its.size ≤ sizeLine ∧ Vals xs its.toList
theorem scr_same {K : PySem.W.Frag} {H H' : Hp} {a : Addr} {xs : List V} (h : ScrL K H a xs) (e : ∀ o, H a = some (.frz o (.lst xs)) → H' a = some (.frz o (.lst xs))) : ScrL K H' a xs := h.imp (fun ⟨o, q⟩ => ⟨o, e _ q⟩) id
mutual
inductive Dd (p : Pm) (I : Hp) : V → D → Prop
  | non : Dd p I .non .none
  | bl (b : Bool) : Dd p I (.bl b) (.bool b)
  | int (i : Int) : Dd p I (.int i) (.int i)
  | str (x : Str) : Dd p I (.str x) (.str x)
  | lst {a : Addr} {xs : List V} {ds : List D} : I a = some (.lst xs) → DdAll p I xs ds → Dd p I (.ref a) (.list ds)
  | tup {a : Addr} {o : Obj} {xs : List V} {ds : List D} : I a = some (.frz o (.tup xs)) → o.dict = none → DdAll p I xs ds → Dd p I (.ref a) (.tuple ds)
  /-- an instance of the class named c -/
  | ins {a C dx : Addr} {c : Str} {fs : List (Str × V)} {ds : List (D × D)} : p.mg c = some (.ref C) → I a = some (.ins C dx fs) → DdFs p I fs ds → Dd p I (.ref a) (.dict ((.str c, .none) :: ds))
  /-- a dict that never changes -/
  | dic {a : Addr} {kv : List (Key × V)} {ds : List (D × D)} : I a = some (.dK kv) → DdKv p I kv ds → Dd p I (.ref a) (.dict ((.none, .none) :: ds))
  /-- a dict that is locked for good -/
  | dicL {a : Addr} {o : Obj} {kv : List (Key × V)} {ds : List (D × D)} : I a = some (.frz o (.dK kv)) → DdKv p I kv ds → Dd p I (.ref a) (.dict ((.none, .bool true) :: ds))
  /-- the script -/
  | scr {a : Addr} {ns : List Int} : ScrL p.K I a (ns.map V.int) → ns.length ≤ 63 → Dd p I (.ref a) (.dict [(.none, .bool false)])
  /-- a def of the module -/
  | fn {f : Addr} {n : Str} : p.mg n = some (.ref f) → Dd p I (.ref f) (.dict [(.str n, .bool true)])
inductive DdAll (p : Pm) (I : Hp) : List V → List D → Prop
  | nil : DdAll p I [] []
  | cons {v : V} {vs : List V} {d : D} {ds : List D} : Dd p I v d → DdAll p I vs ds → DdAll p I (v :: vs) (d :: ds)
inductive DdFs (p : Pm) (I : Hp) : List (Str × V) → List (D × D) → Prop
  | nil : DdFs p I [] []
  | cons {f : Str} {v : V} {vs : List (Str × V)} {d : D} {ds : List (D × D)} : Dd p I v d → DdFs p I vs ds → DdFs p I ((f, v) :: vs) ((.str f, d) :: ds)
inductive DdKv (p : Pm) (I : Hp) : List (Key × V) → List (D × D) → Prop
  | nil : DdKv p I [] []
  | cons {k : Key} {v : V} {vs : List (Key × V)} {d : D} {ds : List (D × D)} : Dd p I v d → DdKv p I vs ds → DdKv p I ((k, v) :: vs) ((keyD k, d) :: ds)
end
section
variable {p : Pm}
mutual
theorem Dd.mono {H H' : Hp} (e : Same H H') : ∀ {v : V} {d : D}, Dd p H v d → Dd p H' v d
  | _, _, .non => .non
  | _, _, .bl b => .bl b
  | _, _, .int i => .int i
  | _, _, .str x => .str x
  | _, _, .lst h hs => .lst (e _ _ h) (DdAll.mono e hs)
  | _, _, .tup h z hs => .tup (e _ _ h) z (DdAll.mono e hs)
  | _, _, .ins c h hs => .ins c (e _ _ h) (DdFs.mono e hs)
  | _, _, .dic h hs => .dic (e _ _ h) (DdKv.mono e hs)
  | _, _, .dicL h hs => .dicL (e _ _ h) (DdKv.mono e hs)
  | _, _, .scr h l => .scr (scr_same h fun _ => e _ _) l
  | _, _, .fn h => .fn h
theorem DdAll.mono {H H' : Hp} (e : Same H H') : ∀ {vs : List V} {ds : List D}, DdAll p H vs ds → DdAll p H' vs ds
  | _, _, .nil => .nil
  | _, _, .cons h hs => .cons (Dd.mono e h) (DdAll.mono e hs)
theorem DdFs.mono {H H' : Hp} (e : Same H H') : ∀ {vs : List (Str × V)} {ds : List (D × D)}, DdFs p H vs ds → DdFs p H' vs ds
  | _, _, .nil => .nil
  | _, _, .cons h hs => .cons (Dd.mono e h) (DdFs.mono e hs)
theorem DdKv.mono {H H' : Hp} (e : Same H H') : ∀ {vs : List (Key × V)} {ds : List (D × D)}, DdKv p H vs ds → DdKv p H' vs ds
  | _, _, .nil => .nil
  | _, _, .cons h hs => .cons (Dd.mono e h) (DdKv.mono e hs)
end
theorem DdAll.length {H : Hp} : ∀ {vs : List V} {ds : List D}, DdAll p H vs ds → vs.length = ds.length
  | _, _, .nil => rfl
  | _, _, .cons _ hs => by simp [DdAll.length hs]
theorem DdAll.get {H : Hp} : ∀ {vs : List V} {ds : List D} {i : Nat} {d : D}, DdAll p H vs ds → ds[i]? = some d → ∃ v, vs[i]? = some v ∧ Dd p H v d
  | _, _, _, _, .nil, h => by simp at h
  | _, _, 0, _, .cons h _, e => by simp at e; subst e; exact ⟨_, rfl, h⟩
  | _, _, i + 1, d, .cons _ hs, e => by
    obtain ⟨v, h1, h2⟩ := DdAll.get (i := i) (d := d) hs (by simpa using e)
    exact ⟨v, by simpa using h1, h2⟩
theorem DdAll.append {H : Hp} : ∀ {vs ws : List V} {ds es : List D}, DdAll p H vs ds → DdAll p H ws es → DdAll p H (vs ++ ws) (ds ++ es)
  | _, _, _, _, .nil, h => h
  | _, _, _, _, .cons h hs, h' => .cons h (DdAll.append hs h')
theorem DdAll.take {H : Hp} : ∀ {vs : List V} {ds : List D} (n : Nat), DdAll p H vs ds → DdAll p H (vs.take n) (ds.take n)
  | _, _, 0, _ => by simpa using DdAll.nil
  | _, _, n + 1, .nil => by simpa using DdAll.nil
  | _, _, n + 1, .cons h hs => by simpa using DdAll.cons h (DdAll.take n hs)
theorem DdAll.drop {H : Hp} : ∀ {vs : List V} {ds : List D} (n : Nat), DdAll p H vs ds → DdAll p H (vs.drop n) (ds.drop n)
  | _, _, 0, h => h
  | _, _, n + 1, .nil => by simpa using DdAll.nil
  | _, _, n + 1, .cons h hs => by simpa using DdAll.drop n hs
theorem DdAll.set {H : Hp} {v : V} {d : D} (h : Dd p H v d) : ∀ {vs : List V} {ds : List D} (n : Nat), DdAll p H vs ds → DdAll p H (vs.set n v) (ds.set n d)
  | _, _, _, .nil => .nil
  | _, _, 0, .cons _ hs => .cons h hs
  | _, _, n + 1, .cons h' hs => .cons h' (DdAll.set h n hs)
theorem DdAll.erase {H : Hp} : ∀ {vs : List V} {ds : List D} (n : Nat), DdAll p H vs ds → DdAll p H (vs.eraseIdx n) (ds.eraseIdx n)
  | _, _, _, .nil => .nil
  | _, _, 0, .cons _ hs => hs
  | _, _, n + 1, .cons h' hs => .cons h' (DdAll.erase n hs)
theorem DdAll.dropLast {H : Hp} {vs : List V} {ds : List D} (h : DdAll p H vs ds) : DdAll p H vs.dropLast ds.dropLast := by
  rw [List.dropLast_eq_take, List.dropLast_eq_take, h.length]; exact h.take _
theorem DdAll.reverse {H : Hp} : ∀ {vs : List V} {ds : List D}, DdAll p H vs ds → DdAll p H vs.reverse ds.reverse
  | _, _, .nil => .nil
  | _, _, .cons h hs => by
    rw [List.reverse_cons, List.reverse_cons]
    exact DdAll.append (DdAll.reverse hs) (.cons h .nil)
theorem DdAll.replicate {H : Hp} {vs : List V} {ds : List D} (h : DdAll p H vs ds) : ∀ n : Nat, DdAll p H (List.replicate n vs).flatten (List.replicate n ds).flatten
  | 0 => .nil
  | n + 1 => by
    rw [List.replicate_succ, List.replicate_succ, List.flatten_cons, List.flatten_cons]
    exact DdAll.append h (DdAll.replicate h n)
end

/-! ### owned objects -/
/-- the draw state's inside -/
def StOk (b : Nat) (gs : List Int) (cur : Int) (cs : List Int) (cnt : Int) : Prop :=
  (∀ g ∈ gs, 0 < g) ∧ 0 ≤ cur ∧ (∀ c ∈ cs, 0 ≤ c ∧ c < 2147483629) ∧ 0 ≤ cnt ∧ cnt ≤ b ∧ cs.length ≤ 63 ∧ gs.length ≤ 63
/-- pairs -/
abbrev KD {κ : Type} (p : Pm) (I : Hp) : List (κ × V) → List (κ × D) → Prop := Paired fun (u : κ × V) (q : κ × D) => u.1 = q.1 ∧ Dd p I u.2 q.2
/-- the same of dicts whose keys are tuples (nested, to depth 8) -/
abbrev KN (p : Pm) (I : Hp) : List (NK × Addr × V) → List (NK × D) → Prop := Paired fun (u : NK × Addr × V) (q : NK × D) => u.1 = q.1 ∧ NkV I (.ref u.2.1) u.1 ∧ u.1.depth ≤ 8 ∧ Dd p I u.2.2 q.2
def OwnAt (p : Pm) (I H : Hp) (a : Addr) (fp : List Addr) : C → Prop
  | .lst ds => fp = [a] ∧ ∃ vs, H a = some (.lst vs) ∧ DdAll p I vs ds
  | .dic kvs => fp = [a] ∧ ∃ kv, H a = some (.dK kv) ∧ KD p I kv kvs
  | .dcN kvs => fp = [a] ∧ ∃ xs : List (NK × Addr × V), H a = some (nkO a xs) ∧ KN p I xs kvs
  | .st b => ∃ g c gs cur cs cnt, fp = [a, g, c] ∧ a ≠ g ∧ a ≠ c ∧ g ≠ c ∧ H a = some (.lst [.ref g, .int cur, .ref c, .int cnt]) ∧ H g = some (.lst (gs.map V.int)) ∧ H c = some (.lst (cs.map V.int)) ∧ StOk b gs cur cs cnt
  | .desk h ps qs => ∃ Cd dx b c vh xs ys, fp = [a, b, c] ∧ a ≠ b ∧ a ≠ c ∧ b ≠ c ∧ p.mg "Desk" = some (.ref Cd) ∧ H a = some (.ins Cd dx [("held", vh), ("past", .ref b), ("ahead", .ref c)]) ∧ Dd p I vh h ∧ H b = some (.lst xs) ∧ DdAll p I xs ps ∧ H c = some (.lst ys) ∧ DdAll p I ys qs
  | .ll dss => ∃ as : List Addr, fp = a :: as ∧ (a :: as).Nodup ∧ H a = some (.lst (as.map V.ref)) ∧ Paired (fun b ds => ∃ vs, H b = some (.lst vs) ∧ DdAll p I vs ds) as dss
theorem paired_on {α β : Type} {R S : α → β → Prop} {xs : List α} {ys : List β} (h : Paired R xs ys) : (∀ x ∈ xs, ∀ y, R x y → S x y) → Paired S xs ys := by
  induction h with
  | nil => intro _; exact .nil
  | cons r _ ih => intro k; exact .cons (k _ List.mem_cons_self _ r) (ih fun x hx => k x (List.mem_cons_of_mem _ hx))
def Own (p : Pm) (F : Lab) (I H : Hp) (j : Option Nat) (N : Addr → Prop) (a : Addr) (c : C) : Prop :=
  ∃ fp, OwnAt p I H a fp c ∧ ∀ b ∈ fp, F b = j ∧ I b = none ∧ N b ∧ H b ≠ none
/-- the own dict of an exception -/
abbrev XdOk (p : Pm) (I : Hp) (d : Option Addr) (fs : List (Str × D)) : Prop := (fs = [] ∧ d = none) ∨ ∃ dd fv, d = some dd ∧ I dd = some (.xd fv) ∧ Paired (fun (u : Str × V) (q : Str × D) => u.1 = q.1 ∧ Dd p I u.2 q.2) fv fs
theorem XdOk.mono {p : Pm} {I I' : Hp} {d : Option Addr} {fs : List (Str × D)} (e : Same I I') (h : XdOk p I d fs) : XdOk p I' d fs := by
  rcases h with h | ⟨dd, fv, h1, h2, h3⟩
  · exact .inl h
  · exact .inr ⟨dd, fv, h1, e _ _ h2, Paired.mapP h3 fun _ _ z => ⟨z.1, Dd.mono e z.2⟩⟩
/-- an exception in hand -/
def ExcV (p : Pm) (I : Hp) (v : V) (x : Exn) : Prop := ∃ d, p.G v x.nm d ∧ XdOk p I d x.fs
def SlotOk (p : Pm) (F : Lab) (I H : Hp) (i : Nat) (v : V) : S → Prop
  | .d d => Dd p I v d
  | .own c => ∃ a, v = .ref a ∧ Own p F I H (some i) (fun _ => True) a c
  | .lent a c => v = .ref a ∧ Own p F I H (some i) (fun _ => True) a c
  | .exc x => ExcV p I v x
/-- slots and heap bear the data environment: I is the part of the heap that never changes, F tells the owned addresses' slots -/
structure Rel (p : Pm) (F : Lab) (I H : Hp) (σ : L2.St) (ρ : Rho) : Prop where
  sub : Same I H
  lab : ∀ a j, F a = some j → I a = none ∧ H a ≠ none
  len : ρ.length = σ.length
  slot : ∀ i s, ρ[i]? = some (some s) → ∃ v, σ[i]? = some (some v) ∧ SlotOk p F I H i v s
/-- from one state to a later one -/
structure Step (F : Lab) (I H : Hp) (F' : Lab) (I' H' : Hp) : Prop where
  keep : ∀ a o, H a = some o → F a = none → H' a = some o
  inc : Same I I'
  newI : ∀ a, I' a ≠ none → I a ≠ none ∨ H a = none ∨ F a ≠ none
  lab : ∀ a j, F' a = some j → F a = some j ∨ H a = none
  there : ∀ a, H a ≠ none → H' a ≠ none
theorem Step.refl (F : Lab) (I H : Hp) : Step F I H F I H := ⟨fun _ _ e _ => e, fun _ _ e => e, fun _ e => .inl e, fun _ _ e => .inl e, fun _ e => e⟩
theorem Step.trans {F F' F'' : Lab} {I I' I'' H H' H'' : Hp} (a : Step F I H F' I' H') (b : Step F' I' H' F'' I'' H'') : Step F I H F'' I'' H'' where
  keep := fun x o e n => by
    refine b.keep x o (a.keep x o e n) ?_
    cases q : F' x with
    | none => rfl
    | some j =>
      rcases a.lab x j q with z | z
      · rw [n] at z; cases z
      · rw [e] at z; cases z
  inc := fun x o e => b.inc x o (a.inc x o e)
  newI := fun x e => by
    rcases b.newI x e with z | z | z
    · exact a.newI x z
    · refine .inr (.inl ?_)
      cases q : H x with
      | none => rfl
      | some o => exact absurd z (a.there x (by rw [q]; simp))
    · cases q : F' x with
      | none => exact absurd q z
      | some j =>
        rcases a.lab x j q with y | y
        · exact .inr (.inr (by rw [y]; simp))
        · exact .inr (.inl y)
  lab := fun x j e => by
    rcases b.lab x j e with z | z
    · exact a.lab x j z
    · refine .inr ?_
      cases q : H x with
      | none => rfl
      | some o => exact absurd z (a.there x (by rw [q]; simp))
  there := fun x e => b.there x (a.there x e)
theorem KD.mono {κ : Type} {p : Pm} {I I' : Hp} (e : Same I I') {kv : List (κ × V)} {kvs : List (κ × D)} (h : KD p I kv kvs) : KD p I' kv kvs := Paired.mapP h fun _ _ z => ⟨z.1, Dd.mono e z.2⟩
theorem KN.mono {p : Pm} {I I' : Hp} (e : Same I I') {kv : List (NK × Addr × V)} {kvs : List (NK × D)} (h : KN p I kv kvs) : KN p I' kv kvs := Paired.mapP h fun _ _ z => ⟨z.1, z.2.1.keep fun a o xs h => e a _ h, z.2.2.1, Dd.mono e z.2.2.2⟩
theorem OwnAt.mem {p : Pm} {I H : Hp} {a : Addr} {fp : List Addr} {c : C} (h : OwnAt p I H a fp c) : a ∈ fp := by
  cases c with
  | lst ds => obtain ⟨rfl, _⟩ := h; simp
  | dic ds => obtain ⟨rfl, _⟩ := h; simp
  | dcN ds => obtain ⟨rfl, _⟩ := h; simp
  | st b => obtain ⟨g, c, _, _, _, _, rfl, _⟩ := h; simp
  | desk _ _ _ => obtain ⟨_, _, b, c, _, _, _, rfl, _⟩ := h; simp
  | ll _ => obtain ⟨as, rfl, _⟩ := h; simp
/-- the objects at fp as they were, more data known -/
theorem OwnAt.keep {p : Pm} {I I' H H' : Hp} {a : Addr} {fp : List Addr} {c : C} (h : OwnAt p I H a fp c) (k : ∀ b ∈ fp, H' b = H b) (e : Same I I') : OwnAt p I' H' a fp c := by
  have ka := k a h.mem
  cases c with
  | lst ds => obtain ⟨rfl, vs, h1, h2⟩ := h; exact ⟨rfl, vs, ka.trans h1, DdAll.mono e h2⟩
  | dic ds => obtain ⟨rfl, vs, h1, h2⟩ := h; exact ⟨rfl, vs, ka.trans h1, KD.mono e h2⟩
  | dcN ds => obtain ⟨rfl, vs, h1, h2⟩ := h; exact ⟨rfl, vs, ka.trans h1, KN.mono e h2⟩
  | st b =>
    obtain ⟨g, c, gs, cur, cs, cnt, rfl, n1, n2, n3, h1, h2, h3, h4⟩ := h
    exact ⟨g, c, gs, cur, cs, cnt, rfl, n1, n2, n3, ka.trans h1, (k g (by simp)).trans h2, (k c (by simp)).trans h3, h4⟩
  | desk hh ps qs =>
    obtain ⟨Cd, dx, b, c, vh, xs, ys, rfl, n1, n2, n3, h1, h2, h3, h4, h5, h6, h7⟩ := h
    exact ⟨Cd, dx, b, c, vh, xs, ys, rfl, n1, n2, n3, h1, ka.trans h2, Dd.mono e h3, (k b (by simp)).trans h4, DdAll.mono e h5, (k c (by simp)).trans h6, DdAll.mono e h7⟩
  | ll dss =>
    obtain ⟨as, rfl, n, h1, h2⟩ := h
    exact ⟨as, rfl, n, ka.trans h1, paired_on h2 fun b hb ds ⟨vs, h3, h4⟩ => ⟨vs, (k b (List.mem_cons_of_mem _ hb)).trans h3, DdAll.mono e h4⟩⟩
/-- a result -/
def ResOk (p : Pm) (F : Lab) (I H0 H : Hp) (σ : L2.St) (v : V) : O → Prop
  | .d d => Dd p I v d
  | .tmp c => ∃ a, v = .ref a ∧ Own p F I H none (fun b => H0 b = none) a c
  | .loc j => σ[j]? = some (some v)
  | .exc x => ExcV p I v x
section
variable {p : Pm} {F F' : Lab} {I I' H0 H1 H H' : Hp} {σ : L2.St} {v : V} {o : O} {a : Addr} {c : C} {N N' : Addr → Prop}
theorem Own.imp {j : Option Nat} (h : Own p F I H j N a c) (f : ∀ b, N b → N' b) : Own p F I H j N' a c := by
  obtain ⟨fp, h1, h2⟩ := h
  exact ⟨fp, h1, fun b hb => let ⟨x, y, z, w⟩ := h2 b hb; ⟨x, y, f b z, w⟩⟩
end

structure DEnds where
  nx : Rho → Prop
  rt : O → Rho → Prop
  bk : Rho → Prop
  ct : Rho → Prop
  ex : Exn → Rho → Prop
abbrev DS := DEnds → Rho → Prop
/-- an exception as it flies -/
def ExOk (p : Pm) (I : Hp) (x : Exn) (cls : Value) (d : Option Addr) : Prop :=
  ∃ Cx, p.mg (exN x.nm) = some (.ref Cx) ∧ cls = .ref Cx ∧ XdOk p I d x.fs
section
variable (p : Pm) (W : WX)
/-- a statement's ends -/
structure SEnd (F : Lab) (I H : Hp) (E : DEnds) (D : Ends) : Prop where
  nx : ∀ ρ' σ' F' I' H', E.nx ρ' → Step F I H F' I' H' → Rel p F' I' H' σ' ρ' → D.nx σ' H'
  bk : ∀ ρ' σ' F' I' H', E.bk ρ' → Step F I H F' I' H' → Rel p F' I' H' σ' ρ' → D.bk σ' H'
  ct : ∀ ρ' σ' F' I' H', E.ct ρ' → Step F I H F' I' H' → Rel p F' I' H' σ' ρ' → D.ct σ' H'
  rt : ∀ o ρ' v σ' F' I' H', E.rt o ρ' → Step F I H F' I' H' → Rel p F' I' H' σ' ρ' → ResOk p F' I' H H' σ' v o → D.rt v H'
  ex : ∀ x ρ' cls d σ' F' I' H', E.ex x ρ' → Step F I H F' I' H' → Rel p F' I' H' σ' ρ' → ExOk p I' x cls d → W cls d σ' H'
def tS (f : DS) : TS := fun D σ H => ∃ F I ρ E, Rel p F I H σ ρ ∧ f E ρ ∧ SEnd p W F I H E D
end
end Dt

namespace Dt
open PySem PySem.Spec PyProof.Rows L2

abbrev pm (X : Cx) (G : V → Nat → Option Addr → Prop) : Pm := ⟨X.K, X.mg, G⟩
abbrev PSsd (X : Cx) (G : V → Nat → Option Addr → Prop) (W : WX) (s : List Stmt) (f : DS) : Prop := PSs X s (tS (pm X G) W f)

/-! ### views -/
def cst (ρ : Rho) (j : Nat) : Option C := match ρ[j]? with
  | some (some (.own c)) => some c
  | some (some (.lent _ c)) => some c
  | _ => none
def dat (ρ : Rho) (j : Nat) : Option D := match ρ[j]? with
  | some (some (.d d)) => some d
  | _ => none
def Dd1 (p : Pm) (I H : Hp) (v : V) (d : D) : Prop := Dd p I v d ∨ ∃ a vs ds, v = .ref a ∧ d = .list ds ∧ H a = some (.lst vs) ∧ DdAll p I vs ds
section
variable {p : Pm} {F F' : Lab} {I I' H0 H1 H H' : Hp} {σ : L2.St} {ρ : Rho} {v w : V} {o : O} {d e : D} {c : C}
theorem Rel.cst (R : Rel p F I H σ ρ) {j : Nat} (h : σ[j]? = some (some v)) (hc : cst ρ j = some c) : ∃ a, v = .ref a ∧ Own p F I H (some j) (fun _ => True) a c := by
  unfold Dt.cst at hc
  split at hc
  · rename_i q
    cases hc
    obtain ⟨u, h1, h2⟩ := R.slot j _ q
    rw [h] at h1; cases h1
    exact h2
  · rename_i a0 c0 q
    cases hc
    obtain ⟨u, h1, h2⟩ := R.slot j _ q
    rw [h] at h1; cases h1
    exact ⟨_, h2⟩
  · cases hc
theorem Dd1.int {i : Int} (h : Dd1 p I H v (.int i)) : v = .int i := by
  rcases h with h | ⟨_, _, _, _, h, _⟩
  · cases h; rfl
  · cases h
theorem Dd1.bool {i : Bool} (h : Dd1 p I H v (.bool i)) : v = .bl i := by
  rcases h with h | ⟨_, _, _, _, h, _⟩
  · cases h; rfl
  · cases h
theorem Dd1.str {i : Str} (h : Dd1 p I H v (.str i)) : v = .str i := by
  rcases h with h | ⟨_, _, _, _, h, _⟩
  · cases h; rfl
  · cases h
theorem Dd1.none (h : Dd1 p I H v .none) : v = .non := by
  rcases h with h | ⟨_, _, _, _, h, _⟩
  · cases h; rfl
  · cases h
theorem Dd1.list {ds : List D} (h : Dd1 p I H v (.list ds)) (s : Same I H) : ∃ a vs, v = .ref a ∧ H a = some (.lst vs) ∧ DdAll p I vs ds := by
  rcases h with h | ⟨a, vs, _, e, h, h1, h2⟩
  · cases h with | lst h hs => exact ⟨_, _, rfl, s _ _ h, hs⟩
  · cases h; exact ⟨a, vs, e, h1, h2⟩
theorem Dd1.tuple {ds : List D} (h : Dd1 p I H v (.tuple ds)) : ∃ a o vs, v = .ref a ∧ I a = some (.frz o (.tup vs)) ∧ o.dict = .none ∧ DdAll p I vs ds := by
  rcases h with h | ⟨a, vs, _, e, h, h1, h2⟩
  · cases h with | tup h z hs => exact ⟨_, _, _, rfl, h, z, hs⟩
  · cases h
/-! ### states that grow -/
theorem Rel.more (R : Rel p F I H σ ρ) (h : Same H H') (i : Same I I') (s : Same I' H') (n : ∀ a, I' a ≠ .none → I a ≠ .none ∨ H a = .none) : Rel p F I' H' σ ρ := by
  have hl : ∀ a j, F a = some j → I' a = .none ∧ H' a = H a ∧ H' a ≠ .none := fun a j e => by
    obtain ⟨h1, h2⟩ := R.lab a j e
    refine ⟨?_, ?_, ?_⟩
    · cases q : I' a with
      | none => rfl
      | some x =>
        rcases n a (by rw [q]; simp) with z | z
        · exact absurd h1 z
        · exact absurd z h2
    · cases q : H a with
      | none => exact absurd q h2
      | some x => exact h a x q
    · cases q : H a with
      | none => exact absurd q h2
      | some x => rw [h a x q]; simp
  have own : ∀ {j : Nat} {a : Addr} {c : C}, Own p F I H (some j) (fun _ => True) a c → Own p F I' H' (some j) (fun _ => True) a c := fun {j a c} ⟨fp, h1, h2⟩ =>
    ⟨fp, h1.keep (fun b hb => (hl b j (h2 b hb).1).2.1) i, fun b hb => ⟨(h2 b hb).1, (hl b j (h2 b hb).1).1, trivial, (hl b j (h2 b hb).1).2.2⟩⟩
  refine ⟨s, fun a j e => ⟨(hl a j e).1, (hl a j e).2.2⟩, R.len, fun k sl e => ?_⟩
  obtain ⟨v, h1, h2⟩ := R.slot k sl e
  refine ⟨v, h1, ?_⟩
  cases sl with
  | d d => exact Dd.mono i h2
  | own c => obtain ⟨a, e, h2⟩ := h2; exact ⟨a, e, own h2⟩
  | lent a c => exact ⟨h2.1, own h2.2⟩
  | exc x => obtain ⟨d, g, h2⟩ := h2; exact ⟨d, g, h2.mono i⟩
theorem Step.more (R : Rel p F I H σ ρ) (h : Same H H') (i : Same I I') (n : ∀ a, I' a ≠ .none → I a ≠ .none ∨ H a = .none) : Step F I H F I' H' :=
  ⟨fun a o e _ => h a o e, i, fun a e => (n a e).elim .inl (fun z => .inr (.inl z)), fun _ _ e => .inl e, fun a e => by
    cases q : H a with
    | none => exact absurd q e
    | some x => rw [h a x q]; simp⟩
theorem same_upd {q : Addr} {x : HO} (h : H q = .none) : Same H (upd H q x) := fun b y e => by
  rw [upd_ne (ne_of_none e h)]; exact e
theorem Rel.fresh (R : Rel p F I H σ ρ) {q : Addr} (h : H q = .none) : I q = .none := by
  cases e : I q with
  | none => rfl
  | some x => rw [R.sub q x e] at h; cases h
theorem Rel.lab0 (R : Rel p F I H σ ρ) {q : Addr} (h : H q = .none) : F q = .none := by
  cases e : F q with
  | none => rfl
  | some x => exact absurd h (R.lab q x e).2
theorem same_updI (R : Rel p F I H σ ρ) {q : Addr} {x : HO} (h : H q = .none) : Same (upd I q x) (upd H q x) := fun b y e => by
  by_cases hb : b = q
  · subst hb; rw [upd_same] at e ⊢; exact e
  · rw [upd_ne hb] at e ⊢; exact R.sub b y e
theorem newI_upd {q : Addr} {x : HO} (h : H q = .none) : ∀ a, upd I q x a ≠ .none → I a ≠ .none ∨ H a = .none := fun a e => by
  by_cases hb : a = q
  · subst hb; exact .inr h
  · rw [upd_ne hb] at e; exact .inl e
/-- a new object that never changes -/
theorem Rel.newI (R : Rel p F I H σ ρ) {q : Addr} {x : HO} (h : H q = .none) : Rel p F (upd I q x) (upd H q x) σ ρ ∧ Step F I H F (upd I q x) (upd H q x) :=
  ⟨R.more (same_upd h) (same_upd (R.fresh h)) (same_updI R h) (newI_upd h), Step.more R (same_upd h) (same_upd (R.fresh h)) (newI_upd h)⟩
/-- a new object of ours -/
theorem Rel.newT (R : Rel p F I H σ ρ) {q : Addr} {x : HO} (h : H q = .none) : Rel p F I (upd H q x) σ ρ ∧ Step F I H F I (upd H q x) :=
  ⟨R.more (same_upd h) (fun _ _ e => e) (fun b y e => same_upd h _ _ (R.sub b y e)) (fun _ e => .inl e), Step.more R (same_upd h) (fun _ _ e => e) (fun _ e => .inl e)⟩
end

/-! ### what a plain operation hands on -/
def Kont (p : Pm) (F : Lab) (I H : Hp) (σ : L2.St) (ρ : Rho) (P : O → Prop) (Q : VK) : Prop :=
  ∀ o v' I' H', P o → Step F I H F I' H' → Rel p F I' H' σ ρ → ResOk p F I' H H' σ v' o → Q v' H'
section
variable {p : Pm} {F F' : Lab} {I I' H0 H1 H H' : Hp} {σ : L2.St} {ρ : Rho} {v w : V} {o : O} {d e : D} {c : C} {P : O → Prop} {Q : VK} {vs : List V} {ds : List D} {q : Addr}
theorem Kont.flat (k : Kont p F I H σ ρ P Q) (R : Rel p F I H σ ρ) (h : P (.d d)) (r : Dd p I v d) : Q v H := k _ _ _ _ h (Step.refl ..) R r
theorem Kont.tup (k : Kont p F I H σ ρ P Q) (R : Rel p F I H σ ρ) (h : P (.d (.tuple ds))) (r : DdAll p I vs ds) : NewT H Q vs := fun q o n z => by
  obtain ⟨R', S⟩ := R.newI (x := .frz o (.tup vs)) n
  exact k _ _ _ _ h S R' (Dd.tup upd_same z (DdAll.mono S.inc r))
theorem Kont.lst (k : Kont p F I H σ ρ P Q) (R : Rel p F I H σ ρ) (h : P (.tmp (.lst ds))) (r : DdAll p I vs ds) (n : H q = none) : Q (.ref q) (upd H q (.lst vs)) := by
  obtain ⟨R', S⟩ := R.newT (x := .lst vs) n
  refine k _ _ _ _ h S R' ⟨q, rfl, [q], ⟨rfl, vs, upd_same, r⟩, fun b hb => ?_⟩
  have e : b = q := by simpa using hb
  subst e
  exact ⟨R.lab0 n, R.fresh n, n, by rw [upd_same]; simp⟩
end
abbrev D2 := D → D → (O → Prop) → Prop
def OpS (p : Pm) (r : R2) (f : D2) : Prop := ∀ F I H σ ρ v w d e P Q, Rel p F I H σ ρ → Dd1 p I H v d → Dd1 p I H w e → f d e P → Kont p F I H σ ρ P Q → r v w H Q
theorem OpS.of {p : Pm} {r r' : R2} {f : D2} (a : OpS p r f) (h : ∀ x y H Q, r x y H Q → r' x y H Q) : OpS p r' f := fun F I H σ ρ v w d e P Q R h1 h2 q k => h _ _ _ _ (a F I H σ ρ v w d e P Q R h1 h2 q k)
theorem OpS.imp {p : Pm} {r : R2} {f f' : D2} (a : OpS p r f) (h : ∀ d e P, f' d e P → f d e P) : OpS p r f' := fun F I H σ ρ v w d e P Q R h1 h2 q k => a F I H σ ρ v w d e P Q R h1 h2 (h _ _ _ q) k
end Dt

namespace Dt
open PySem PySem.Spec PyProof.Rows L2

/-! ### arithmetic -/
def wideE : Nat := 20000
@[irreducible] def wideB : Nat := 2 ^ wideE
def mulOk (i j : Int) : Prop := (-(2 ^ 64) < i ∧ i < 2 ^ 64) ∨ (-(2 ^ 64) < j ∧ j < 2 ^ 64) ∨ (i.natAbs < wideB ∧ j.natAbs < wideB)
def isNone : D → Bool
  | .none => true
  | _ => false
end Dt

namespace Dt
open PySem PySem.Spec PyProof.Rows L2

/-! ### owned lists handed over -/
def frz (ρ : Rho) : O → Option (D × Rho)
  | .d d => some (d, ρ)
  | .tmp (.lst ds) => some (.list ds, ρ)
  | .loc j => (match ρ[j]? with
    | some (some (.own (.lst ds))) => some (.list ds, ρ.set j (some (.d (.list ds))))
    | some (some (.d d)) => some (d, ρ)
    | _ => none)
  | _ => none
end Dt

namespace Dt
open PySem PySem.Spec PyProof.Rows L2

/-! ### sorting, greatest, least: plain -/
def ins (x : Int) : List Int → List Int
  | [] => [x]
  | y :: ys => if x ≤ y then x :: y :: ys else y :: ins x ys
def srt : List Int → List Int
  | [] => []
  | x :: xs => ins x (srt xs)
theorem ins_perm (x : Int) : ∀ ys : List Int, (ins x ys).Perm (x :: ys)
  | [] => List.Perm.refl _
  | y :: ys => by
    unfold ins
    split
    · exact List.Perm.refl _
    · exact ((ins_perm x ys).cons y).trans (List.Perm.swap x y ys)
theorem srt_perm : ∀ xs : List Int, (srt xs).Perm xs
  | [] => List.Perm.refl _
  | x :: xs => (ins_perm x _).trans ((srt_perm xs).cons x)
theorem ins_up (x : Int) : ∀ ys : List Int, ys.Pairwise (· ≤ ·) → (ins x ys).Pairwise (· ≤ ·)
  | [], _ => by simp [ins]
  | y :: ys, h => by
    unfold ins
    rw [List.pairwise_cons] at h
    split
    · rename_i e
      rw [List.pairwise_cons]
      refine ⟨fun z hz => ?_, List.pairwise_cons.mpr h⟩
      rcases List.mem_cons.mp hz with rfl | hz
      · exact e
      · have := h.1 z hz; omega
    · rename_i e
      rw [List.pairwise_cons]
      refine ⟨fun z hz => ?_, ins_up x ys h.2⟩
      rcases List.mem_cons.mp ((ins_perm x ys).mem_iff.mp hz) with rfl | hz
      · omega
      · exact h.1 z hz
theorem srt_up : ∀ xs : List Int, (srt xs).Pairwise (· ≤ ·)
  | [] => List.Pairwise.nil
  | x :: xs => ins_up x _ (srt_up xs)
theorem up_unique : ∀ {xs ys : List Int}, xs.Perm ys → xs.Pairwise (· ≤ ·) → ys.Pairwise (· ≤ ·) → xs = ys
  | [], ys, p, _, _ => (List.nil_perm.mp p).symm ▸ rfl
  | x :: xs, [], p, _, _ => absurd (List.perm_nil.mp p) (by simp)
  | x :: xs, y :: ys, p, h1, h2 => by
    rw [List.pairwise_cons] at h1 h2
    have e : x = y := by
      have a : x ∈ y :: ys := p.mem_iff.mp List.mem_cons_self
      have b : y ∈ x :: xs := p.mem_iff.mpr List.mem_cons_self
      rcases List.mem_cons.mp a with a | a
      · exact a
      · rcases List.mem_cons.mp b with b | b
        · exact b.symm
        · have := h1.1 y b; have := h2.1 x a; omega
    subst e
    rw [up_unique (List.Perm.cons_inv p) h1.2 h2.2]
theorem srt_eq {xs ys : List Int} (p : ys.Perm xs) (h : ys.Pairwise (· ≤ ·)) : ys = srt xs := up_unique (p.trans (srt_perm xs).symm) h (srt_up xs)
end Dt

namespace Dt
open PySem PySem.Spec PyProof.Rows L2

/-- a tuple that is there to be taken apart -/
def ItemT (p : Pm) (I H : Hp) (v : V) (d : D) : Prop := ∃ T xs ds, v = .ref T ∧ d = .tuple ds ∧ SqT p.K H T xs ∧ DdAll p I xs ds
def Item (p : Pm) (strong : Bool) (I H : Hp) (v : V) (d : D) : Prop := if strong = true then Dd p I v d else ItemT p I H v d
theorem wipe_get : ∀ {vs : List Nat} {σ : L2.St} {k : Nat}, (wipe σ vs)[k]? = if k ∈ vs ∧ k < σ.length then some none else σ[k]?
  | [], σ, k => by simp [wipe]
  | v :: vs, σ, k => by
    have ih := wipe_get (vs := vs) (σ := σ) (k := k)
    unfold wipe
    by_cases hk : v = k
    · subst hk
      by_cases hl : v < σ.length
      · rw [List.getElem?_set_self (by rw [wipe_length]; exact hl)]
        simp [hl]
      · rw [List.getElem?_eq_none (by rw [List.length_set, wipe_length]; omega), if_neg (by intro z; exact hl z.2), List.getElem?_eq_none (by omega)]
    · rw [List.getElem?_set_ne hk, ih]
      have : k ≠ v := fun z => hk z.symm
      simp [this]
end Dt

namespace Dt
open PySem PySem.Spec PyProof.Rows L2

/-! ### what a loop walks -/
/-- nothing that is tracked is too long -/
def Big (H : Hp) : Prop := ∀ a xs, (H a = some (.lst xs) ∨ ∃ o, H a = some (.frz o (.tup xs))) → xs.length ≤ sizeLine
theorem Inv.big {X : Cx} {pins : List (Addr × Obj)} {σ : L2.St} {H : Hp} {s : Shared} (I : Inv X pins σ H s) : Big H := fun a xs h => by
  rcases h with h | ⟨o, h⟩
  · exact (I.hok a _ h).1
  · exact (I.hok a _ h).2.1
/-- J walks the data ds -/
structure ItW (p : Pm) (strong : Bool) (J : It) (F : Lab) (I H : Hp) (ds : List D) : Prop where
  ex : ∃ G Y, Walk J ds.length G Y ∧ (∀ F' I' H', Step F I H F' I' H' → Same I' H' → G H') ∧
    ∀ i H1 x H2, i < ds.length → Y i H1 x H2 → ∀ F1 I1, Step F I H F1 I1 H1 → Same I1 H1 → (∀ a j, F1 a = some j → I1 a = none ∧ H1 a ≠ none) →
      ∃ I2 d, ds[i]? = some d ∧ Same H1 H2 ∧ Same I1 I2 ∧ Same I2 H2 ∧ (∀ a, I2 a ≠ none → I1 a ≠ none ∨ H1 a = none) ∧ Item p strong I2 H2 x d
  big : ds.length ≤ sizeLine
theorem ItW.more {p : Pm} {F1 : Lab} {I1 H1 I2 H2 : Hp} {σ : L2.St} {ρ : Rho} (R : Rel p F1 I1 H1 σ ρ) (h : Same H1 H2) (i : Same I1 I2) (s : Same I2 H2) (n : ∀ a, I2 a ≠ none → I1 a ≠ none ∨ H1 a = none) : Rel p F1 I2 H2 σ ρ ∧ Step F1 I1 H1 F1 I2 H2 :=
  ⟨R.more h i s n, Step.more R h i n⟩
/-- the block's own slots as they stood (data alone) -/
def keepD : Option (Option S) → Option S
  | some (some (.d d)) => some (.d d)
  | _ => none
def back1 (ρ0 : Rho) (ρ : Rho) (v : Nat) : Rho := ρ.set v (keepD ρ0[v]?)
def backR (ρ0 ρ : Rho) : List Nat → Rho
  | [] => ρ
  | v :: vs => back1 ρ0 (backR ρ0 ρ vs) v
abbrev W0 : WX := fun _ _ _ _ => False
theorem back1_length (ρ0 ρ : Rho) (v : Nat) : (back1 ρ0 ρ v).length = ρ.length := by
  unfold back1
  rw [List.length_set]
theorem backR_length (ρ0 ρ : Rho) : ∀ vs : List Nat, (backR ρ0 ρ vs).length = ρ.length
  | [] => rfl
  | v :: vs => by unfold backR; rw [back1_length, backR_length ρ0 ρ vs]
theorem backR_some {ρ0 ρ : Rho} {i : Nat} {x : S} : ∀ {vs : List Nat}, (backR ρ0 ρ vs)[i]? = some (some x) → (i ∉ vs ∧ ρ[i]? = some (some x)) ∨ (∃ d, x = .d d ∧ ρ0[i]? = some (some (.d d)))
  | [], h => .inl ⟨by simp, h⟩
  | v :: vs, h => by
    unfold backR back1 at h
    by_cases hi : v = i
    · subst hi
      by_cases hv : v < (backR ρ0 ρ vs).length
      · rw [List.getElem?_set_self hv] at h
        have h := Option.some.inj h
        unfold keepD at h
        split at h
        · rename_i d e
          cases h; exact .inr ⟨d, rfl, e⟩
        · cases h
      · rw [List.getElem?_eq_none (by simpa using hv)] at h; cases h
    · rw [List.getElem?_set_ne hi] at h
      rcases backR_some h with ⟨h1, h2⟩ | h
      · exact .inl ⟨by simp only [List.mem_cons, not_or]; exact ⟨fun e => hi e.symm, h1⟩, h2⟩
      · exact .inr h
section
variable {p : Pm} {F F' F0 : Lab} {I I' I0 H0 H1 H H' : Hp} {σ σ' : L2.St} {ρ ρ' ρ0 : Rho} {W : WX}
theorem wipe_keep {vs : List Nat} {i : Nat} (h : i ∉ vs) : (wipe σ vs)[i]? = σ[i]? := by
  rw [wipe_get, if_neg (fun z => h z.1)]
theorem Rel.back {vs : List Nat} (R0 : Rel p F0 I0 H0 σ ρ0) (s : Same I0 I) (R : Rel p F I H (wipe σ vs) ρ) : Rel p F I H σ (backR ρ0 ρ vs) := by
  refine ⟨R.sub, R.lab, by rw [backR_length, R.len, wipe_length], fun i sl e => ?_⟩
  rcases backR_some e with ⟨h1, h2⟩ | ⟨d, rfl, h⟩
  · obtain ⟨v, h3, h4⟩ := R.slot i sl h2
    exact ⟨v, by rw [wipe_keep h1] at h3; exact h3, h4⟩
  · obtain ⟨v, h3, h4⟩ := R0.slot i _ h
    exact ⟨v, h3, Dd.mono s h4⟩
end
end Dt

namespace Dt
open PySem PySem.Spec PyProof.Rows L2

/-! ### codecs -/
structure Cod (α : Type) where
  enc : α → D
  dec : D → Option α
  h1 : ∀ a, dec (enc a) = some a
  h2 : ∀ d a, dec d = some a → d = enc a
@[irreducible] def Cod.K {α : Type} (c : Cod α) (d : D) (k : α → Prop) : Prop := match c.dec d with
  | some a => k a
  | none => False
theorem Cod.inj {α : Type} (c : Cod α) {a b : α} (h : c.enc a = c.enc b) : a = b := by
  have := c.h1 a; rw [h, c.h1] at this; exact (Option.some.inj this).symm
def decL {α : Type} (f : D → Option α) : List D → Option (List α)
  | [] => some []
  | d :: ds => match f d with
    | some a => (match decL f ds with
      | some as => some (a :: as)
      | none => none)
    | none => none
theorem decL_enc {α : Type} (c : Cod α) : ∀ as : List α, decL c.dec (as.map c.enc) = some as
  | [] => rfl
  | a :: as => by simp [decL, c.h1, decL_enc c as]
theorem decL_eq {α : Type} (c : Cod α) : ∀ {ds : List D} {as : List α}, decL c.dec ds = some as → ds = as.map c.enc
  | [], as, h => by cases h; rfl
  | d :: ds, as, h => by
    cases e1 : c.dec d with
    | none => simp [decL, e1] at h
    | some a =>
      cases e2 : decL c.dec ds with
      | none => simp [decL, e1, e2] at h
      | some as2 =>
        simp [decL, e1, e2] at h
        rw [← h, List.map_cons, ← decL_eq c e2, ← c.h2 _ _ e1]
def cT {α : Type} (c : Cod α) : Cod (List α) := ⟨fun as => .tuple (as.map c.enc), fun d => match d with | .tuple ds => decL c.dec ds | _ => none, fun as => decL_enc c as, fun d a h => by
  cases d <;> simp at h
  rw [decL_eq c h]⟩
def cL {α : Type} (c : Cod α) : Cod (List α) := ⟨fun as => .list (as.map c.enc), fun d => match d with | .list ds => decL c.dec ds | _ => none, fun as => decL_enc c as, fun d a h => by
  cases d <;> simp at h
  rw [decL_eq c h]⟩
def cP {α β : Type} (c : Cod α) (e : Cod β) : Cod (α × β) := ⟨fun p => .tuple [c.enc p.1, e.enc p.2], fun d => match d with
  | .tuple [x, y] => (match c.dec x with
    | some a => (match e.dec y with
      | some b => some (a, b)
      | none => none)
    | none => none)
  | _ => none, fun p => by simp [c.h1, e.h1], fun d p h => by
    split at h
    · rename_i x y
      cases e1 : c.dec x with
      | none => simp [e1] at h
      | some a =>
        cases e2 : e.dec y with
        | none => simp [e1, e2] at h
        | some b =>
          simp [e1, e2] at h
          rw [← h, ← c.h2 _ _ e1, ← e.h2 _ _ e2]
    · cases h⟩
abbrev Heap1 := List Int
/-- a heap, a rule as data -/
abbrev hD (h : Heap1) : D := .tuple (h.map PyData.int)
/-! ### data that may be compared -/
structure Good {α : Type} [DecidableEq α] (c : Cod α) (n : Nat) : Prop where
  lay : ∀ a, (c.enc a).canLay0 = true
  dep : ∀ a, (c.enc a).depth ≤ n
  eqv : ∀ a b, PyData.eqv (c.enc a) (c.enc b) = decide (a = b)
theorem Good.sh {α : Type} [DecidableEq α] {c : Cod α} {n : Nat} (g : Good c n) (hn : n ≤ 64) (a : α) : SeqAt.shaped (c.enc a) = true := by
  unfold SeqAt.shaped
  rw [g.lay, decide_eq_true (Nat.le_trans (g.dep a) hn)]; rfl
theorem good_all {α : Type} [DecidableEq α] {c : Cod α} {n : Nat} (g : Good c n) : ∀ as : List α, PyData.canLayAll0 (as.map c.enc) = true ∧ PyData.depthAll (as.map c.enc) ≤ n
  | [] => by simp [PyData.canLayAll0, PyData.depthAll]
  | a :: as => by
    obtain ⟨h1, h2⟩ := good_all g as
    have := g.dep a
    simp only [List.map_cons, PyData.canLayAll0, PyData.depthAll, g.lay, h1, Bool.and_self, true_and]
    omega
theorem good_eqv {α : Type} [DecidableEq α] {c : Cod α} {n : Nat} (g : Good c n) : ∀ as bs : List α, PyData.eqvAll (as.map c.enc) (bs.map c.enc) = decide (as = bs)
  | [], [] => by simp [PyData.eqvAll]
  | [], _ :: _ => by simp [PyData.eqvAll]
  | _ :: _, [] => by simp [PyData.eqvAll]
  | a :: as, b :: bs => by
    simp only [List.map_cons, PyData.eqvAll, good_eqv g as bs, g.eqv]
    by_cases h : a = b <;> simp [h]
theorem Good.T {α : Type} [DecidableEq α] {c : Cod α} {n : Nat} (g : Good c n) : Good (cT c) (n + 1) :=
  ⟨fun as => by simp only [cT, PyData.canLay0]; exact (good_all g as).1, fun as => by simp only [cT, PyData.depth]; have := (good_all g as).2; omega, fun as bs => by simp only [cT, PyData.eqv]; exact good_eqv g as bs⟩
theorem Good.L {α : Type} [DecidableEq α] {c : Cod α} {n : Nat} (g : Good c n) : Good (cL c) (n + 1) :=
  ⟨fun as => by simp only [cL, PyData.canLay0]; exact (good_all g as).1, fun as => by simp only [cL, PyData.depth]; have := (good_all g as).2; omega, fun as bs => by simp only [cL, PyData.eqv]; exact good_eqv g as bs⟩
theorem Good.P {α β : Type} [DecidableEq α] [DecidableEq β] {c : Cod α} {e : Cod β} {n m : Nat} (g : Good c n) (g' : Good e m) : Good (cP c e) (max n m + 1) :=
  ⟨fun a => by simp only [cP, PyData.canLay0, PyData.canLayAll0, g.lay, g'.lay, Bool.and_self], fun a => by
    have := g.dep a.1
    have := g'.dep a.2
    simp only [cP, PyData.depth, PyData.depthAll]; omega, fun a b => by
    obtain ⟨a1, a2⟩ := a
    obtain ⟨b1, b2⟩ := b
    simp only [cP, PyData.eqv, PyData.eqvAll, g.eqv, g'.eqv]
    by_cases h : a1 = b1 <;> by_cases h' : a2 = b2 <;> simp [h, h']⟩
/-- two ways -/
theorem br {p : Prop} [Decidable p] {A B : Prop} (h1 : p → A) (h2 : ¬ p → B) : (decide p = true → A) ∧ (decide p = false → B) := ⟨fun h => h1 (of_decide_eq_true h), fun h => h2 (of_decide_eq_false h)⟩
/-! ### heaps -/
def isHeap (h : Heap1) : Prop := h.Pairwise (· ≥ ·) ∧ ∀ x ∈ h, 1 ≤ x
theorem mem_srtR {ns : List Int} {x : Int} : x ∈ (srt ns).reverse ↔ x ∈ ns := by rw [List.mem_reverse, (srt_perm ns).mem_iff]
theorem perm_srtR (ns : List Int) : (srt ns).reverse.Perm ns := (List.reverse_perm _).trans (srt_perm ns)
theorem down_srtR (ns : List Int) : (srt ns).reverse.Pairwise (· ≥ ·) := by
  rw [List.pairwise_reverse]
  exact (srt_up ns).imp fun h => h
end Dt

namespace Dt
open PySem PySem.Spec PyProof.Rows L2

/-! ### try: clauses with and without a name, with and without else -/
abbrev TCl := Value × Option Nat × (Addr → Value → Option Addr → TS)
inductive ClOk (X : Cx) : List ExceptHandler → List TCl → Prop
  | nil : ClOk X [] []
  | bare {x : Str} {c : Value} {ts : Addr → Value → Option Addr → TS} {b₀ : Stmt} {suite : List Stmt} {np pos' : Pos} {hds : List ExceptHandler} {l : List TCl} (hc : Names X x c)
      (hsu : ∀ (a : Addr) (oe : Obj) (cls : Value) (d : Option Addr) (pn : List (Addr × Obj)), Zc cls d oe → (∃ vs, oe.data = .fields vs) → PSs (X.suite a ((a, oe) :: pn)) (b₀ :: suite) (ts a cls d)) (r : ClOk X hds l) :
      ClOk X (.ExceptHandler (some (.Name x np)) none (b₀ :: suite) pos' :: hds) ((c, none, ts) :: l)
  | named {x n : Str} {i : Nat} {c : Value} {ts : Addr → Value → Option Addr → TS} {b₀ : Stmt} {suite : List Stmt} {np pos' : Pos} {hds : List ExceptHandler} {l : List TCl} (hi : X.N[i]? = some n) (hln : X.env.kindOf n = some .local) (hc : Names X x c)
      (hsu : ∀ (a : Addr) (oe : Obj) (cls : Value) (d : Option Addr) (pn : List (Addr × Obj)), Zc cls d oe → (∃ vs, oe.data = .fields vs) → PSs (X.suite a ((a, oe) :: pn)) (b₀ :: suite) (ts a cls d)) (r : ClOk X hds l) :
      ClOk X (.ExceptHandler (some (.Name x np)) (some n) (b₀ :: suite) pos' :: hds) ((c, some i, ts) :: l)
/-! ### what the written part says of the exception classes -/
/-- ks: the classes of the text, ca: where they stand -/
structure XF (K : PySem.W.Frag) (mg : Str → Option Value) (ks : List Nat) (ca : Nat → Addr) : Prop where
  has : ∀ n ∈ ks, mg (exN n) = some (.ref (ca n))
  exm : ∀ n ∈ ks, ∀ m ∈ ks, PySem.W.exmOne K (.ref (ca n)) (.ref (ca m)) = some (subX n m)
  kit : ∀ n ∈ ks, ∀ m ∈ ks, PySem.W.kitOne K (.ref (ca n)) (.ref (ca m)) = some (subX n m)
  kitV : ∀ n ∈ ks, PySem.W.kitOne K (.ref (ca n)) (.type "ValueError") = some true
  exc : ∀ n ∈ ks, ExcC K (ca n)
  xf : ∀ n ∈ ks, XfC K (ca n)
  kp : ∀ n ∈ ks, PySem.W.keepIn K (.ref (ca n)) = true
  sub : ∀ n ∈ ks, PySem.W.subIn K (.ref (ca n)) (.type "BaseException") = some true
  typ : ∀ n ∈ ks, PySem.W.typeIn K (.ref (ca n)) = some (.type "type")
  own : ∀ n ∈ ks, n ≤ 16 → PySem.W.excIn K (ca n) [.type "ValueError", .type "Exception", .type "BaseException", .type "object"] "ValueError.__new__" = true
def excB (K : PySem.W.Frag) (D : Addr) : Bool := decide (PySem.W.findIn K (.ref D) "__getattribute__" = some (some (.builtin "BaseException.__getattribute__"))) && decide (PySem.W.findIn K (.ref D) "__getattr__" = some none) && decide (PySem.W.subIn K (.ref D) (.type "BaseException") = some true) &&
  PySem.W.hasDictIn K D && decide (PySem.W.findIn K (.ref D) "__class__" = some (some (.builtin "object.__class__"))) && decide (PySem.W.specialIn K (.builtin "object.__class__") "__get__" = some (some (.builtin "getset_descriptor.__get__"))) && decide (PySem.W.takesIn K (.builtin "object.__class__") = some true) && decide (PySem.W.mroIn K D (.type "object") = some true)
def xchk (K : PySem.W.Frag) (ks : List (Nat × Addr)) : Bool := ks.all fun p => (ks.all fun q => decide (PySem.W.exmOne K (.ref p.2) (.ref q.2) = some (subX p.1 q.1)) && decide (PySem.W.kitOne K (.ref p.2) (.ref q.2) = some (subX p.1 q.1))) &&
  decide (PySem.W.kitOne K (.ref p.2) (.type "ValueError") = some true) && excB K p.2 && xfB K p.2 && PySem.W.keepIn K (.ref p.2) && decide (PySem.W.subIn K (.ref p.2) (.type "BaseException") = some true) && decide (PySem.W.typeIn K (.ref p.2) = some (.type "type")) &&
  (!decide (p.1 ≤ 16) || PySem.W.excIn K p.2 [.type "ValueError", .type "Exception", .type "BaseException", .type "object"] "ValueError.__new__")
/-! ### try and raise, by data -/
/-- the exception at a, of the class cls, its own dict d -/
def Ga (mg : Str → Option Value) (a : Addr) (cls : Value) (d : Option Addr) : V → Nat → Option Addr → Prop := fun v n dd => v = .ref a ∧ mg (exN n) = some cls ∧ dd = d
def clsOf (K : PySem.W.Frag) (mg : Str → Option Value) (ca : Nat → Addr) (cs : List (Nat × Option Nat × DS)) : List TCl := cs.map fun c => (.ref (ca c.1), c.2.1, fun a cls d => tS ⟨K, mg, Ga mg a cls d⟩ W0 c.2.2)
section
variable {X : Cx} {W : WX} {pos pos2 p p2 : Pos} {body orelse : List Stmt} {h₀ : ExceptHandler} {hds : List ExceptHandler} {f g : DS} {cs : List (Nat × Option Nat × DS)} {ks : List Nat} {ca : Nat → Addr}
/-- the clauses of the text -/
inductive ClsD (X : Cx) (ks : List Nat) (ca : Nat → Addr) : List ExceptHandler → List (Nat × Option Nat × DS) → Prop
  | nil : ClsD X ks ca [] []
  | bare {T : Nat} {b : DS} {b₀ : Stmt} {suite : List Stmt} {x : Str} {np pos' : Pos} {hds : List ExceptHandler} {l : List (Nat × Option Nat × DS)} (hx : x = exN T) (hT : T ∈ ks) (hg : Gl X x) (hd : (x == ("__debug__" : Str)) = false)
      (hsu : ∀ (a : Addr) (oe : Obj) (cls : Value) (d : Option Addr) (pn : List (Addr × Obj)), Zc cls d oe → (∃ vs, oe.data = .fields vs) → PSsd (X.suite a ((a, oe) :: pn)) (Ga X.mg a cls d) W0 (b₀ :: suite) b) (r : ClsD X ks ca hds l) :
      ClsD X ks ca (.ExceptHandler (some (.Name x np)) none (b₀ :: suite) pos' :: hds) ((T, none, b) :: l)
  | named {T i : Nat} {n : Str} {b : DS} {b₀ : Stmt} {suite : List Stmt} {x : Str} {np pos' : Pos} {hds : List ExceptHandler} {l : List (Nat × Option Nat × DS)} (hx : x = exN T) (hT : T ∈ ks) (hg : Gl X x) (hd : (x == ("__debug__" : Str)) = false) (hi : X.N[i]? = some n) (hln : X.env.kindOf n = some .local)
      (hsu : ∀ (a : Addr) (oe : Obj) (cls : Value) (d : Option Addr) (pn : List (Addr × Obj)), Zc cls d oe → (∃ vs, oe.data = .fields vs) → PSsd (X.suite a ((a, oe) :: pn)) (Ga X.mg a cls d) W0 (b₀ :: suite) b) (r : ClsD X ks ca hds l) :
      ClsD X ks ca (.ExceptHandler (some (.Name x np)) (some n) (b₀ :: suite) pos' :: hds) ((T, some i, b) :: l)
theorem ClsD.ok (xf : XF X.K X.mg ks ca) : ∀ {hds : List ExceptHandler} {cs : List (Nat × Option Nat × DS)}, ClsD X ks ca hds cs → ClOk X hds (clsOf X.K X.mg ca cs) ∧ ∀ c ∈ cs, c.1 ∈ ks
  | _, _, .nil => ⟨.nil, by simp⟩
  | _, _, .bare hx hT hg hd hsu r => by
    obtain ⟨h1, h2⟩ := ClsD.ok xf r
    refine ⟨.bare ⟨hg, hd, .inl (by rw [hx]; exact xf.has _ hT)⟩ hsu h1, fun c hc => ?_⟩
    rcases List.mem_cons.mp hc with rfl | hc
    · exact hT
    · exact h2 c hc
  | _, _, .named hx hT hg hd hi hln hsu r => by
    obtain ⟨h1, h2⟩ := ClsD.ok xf r
    refine ⟨.named hi hln ⟨hg, hd, .inl (by rw [hx]; exact xf.has _ hT)⟩ hsu h1, fun c hc => ?_⟩
    rcases List.mem_cons.mp hc with rfl | hc
    · exact hT
    · exact h2 c hc
end
end Dt

namespace Dt
open PySem PySem.Spec PyProof.Rows L2

/-! ### exceptions with fields -/
def oexB (K : PySem.W.Frag) (C : Addr) : Bool := (match K.lookup C with
  | some ⟨.type "type", _, .cls cd, sl⟩ => (match cd.mro, sl.toList with
    | .ref C' :: bm, [_, _, _, _, some (.builtin n), _] => C' == C && n == "ValueError.__new__" && !cd.hasDel && cd.hasDict && PySem.HandSPX.refsVE bm
    | _, _ => false)
  | _ => false) && decide (PySem.W.findIn K (.ref C) "__setattr__" = some (some (.builtin "object.__setattr__"))) && decide (PySem.W.subIn K (.ref C) (.type "BaseException") = some true) && decide (PySem.W.typeIn K (.ref C) = some (.type "type")) && PySem.W.keepIn K (.ref C)
def clsS (s : Stmt) (j : Nat) : Stmt := match s with
  | .ClassDef _ _ _ body _ _ _ _ _ _ _ => body.getD j (.Pass ⟨0, 0, 0, 0⟩)
  | _ => .Pass ⟨0, 0, 0, 0⟩
end Dt

/-! # Dt: plain helpers -/
namespace Dt
open PySem PySem.Spec PyProof.Rows L2
theorem len_srt (ns : List Int) : (srt ns).length = ns.length := (srt_perm ns).length_eq
/-! ### heaps in heaps -/
def liesIn (a b : Heap1) : Bool := a.all fun x => decide (((a.count x : Nat) : Int) ≤ ((b.count x : Nat) : Int))
theorem liesIn_iff {a b : Heap1} : liesIn a b = true ↔ ∀ x, a.count x ≤ b.count x := by
  unfold liesIn
  rw [List.all_eq_true]
  constructor
  · intro h x
    by_cases hx : x ∈ a
    · have := h x hx; simp only [decide_eq_true_eq] at this; omega
    · rw [List.count_eq_zero_of_not_mem hx]; omega
  · intro h x _
    have := h x
    simp only [decide_eq_true_eq]; omega
def takeOff (a b : Heap1) : Heap1 := a.foldl (fun l x => l.erase x) b
theorem takeOff_sub : ∀ (a b : Heap1), (takeOff a b).Sublist b
  | [], b => List.Sublist.refl _
  | x :: a, b => (takeOff_sub a (b.erase x)).trans (List.erase_sublist)
theorem takeOff_perm : ∀ (a b : Heap1), (∀ x, a.count x ≤ b.count x) → b.Perm (a ++ takeOff a b)
  | [], b, _ => List.Perm.refl _
  | x :: a, b, h => by
    have hx : x ∈ b := List.count_pos_iff.mp (by have := h x; rw [List.count_cons_self] at this; omega)
    refine (List.perm_cons_erase hx).trans ((takeOff_perm a (b.erase x) fun y => ?_).cons x)
    have := h y
    rw [List.count_cons] at this
    rw [List.count_erase]
    omega
end Dt

/-! # Dt: partings, by plain lists -/
namespace Dt
open PySem PySem.Spec PyProof.Rows L2
/-- M, M-1, .. 1 -/
def downTo (M : Nat) : List Nat := (List.range M).map fun j => M - j
/-- all partings of n into parts up to m, falling; k: how deep one looks -/
def pts : Nat → Nat → Nat → List Heap1
  | 0, _, _ => []
  | k + 1, n, m => if n = 0 then [[]] else (downTo (min n m)).flatMap fun p => (pts k (n - p) p).map fun r => (p : Int) :: r
def firstN (r : List Heap1) (h : Heap1) : Option Nat := r.findIdx? fun x => liesIn x h
def keepB (r : List Heap1) (h : Heap1) : Bool := r.all fun x => !liesIn x h
def keptL (r : List Heap1) (n : Nat) : List Heap1 := (pts 26 n n).filter (keepB r)
end Dt

/-! # Dt: choices, by plain lists -/
namespace Dt
open PySem PySem.Spec PyProof.Rows L2
/-- those at whose place the number has a bit -/
def pickL {α : Type} : Nat → List α → List α
  | _, [] => []
  | c, x :: xs => if c % 2 = 1 then x :: pickL (c / 2) xs else pickL (c / 2) xs
def chosenL {α : Type} (xs : List α) : List (List α) := (List.range (2 ^ xs.length)).map fun c => pickL c xs
/-- the law's own: doubled -/
def choicesL : Nat → List (List Int)
  | 0 => [[]]
  | m + 1 => choicesL m ++ (choicesL m).map (· ++ [(m : Int)])
theorem pickL_map {α β : Type} (f : α → β) : ∀ (c : Nat) (xs : List α), pickL c (xs.map f) = (pickL c xs).map f
  | _, [] => rfl
  | c, x :: xs => by
    rw [List.map_cons, pickL, pickL, pickL_map f (c / 2) xs]
    split <;> rfl
theorem pickL_sub {α : Type} : ∀ (c : Nat) (xs : List α), (pickL c xs).Sublist xs
  | _, [] => List.Sublist.refl _
  | c, x :: xs => by
    rw [pickL]
    split
    · exact (pickL_sub (c / 2) xs).cons₂ x
    · exact (pickL_sub (c / 2) xs).cons x
theorem chosenL_sub {α : Type} {xs c : List α} (h : c ∈ chosenL xs) : c.Sublist xs := by
  unfold chosenL at h
  obtain ⟨k, _, rfl⟩ := List.mem_map.mp h
  exact pickL_sub k xs
theorem pickL_snoc {α : Type} (x : α) : ∀ (c : Nat) (xs : List α), pickL c (xs ++ [x]) = pickL c xs ++ (if c / 2 ^ xs.length % 2 = 1 then [x] else [])
  | c, [] => by simp [pickL]
  | c, y :: ys => by
    have e : c / 2 ^ (y :: ys).length = c / 2 / 2 ^ ys.length := by
      rw [List.length_cons, Nat.pow_succ, Nat.mul_comm, Nat.div_div_eq_div_mul]
    rw [List.cons_append, pickL, pickL, pickL_snoc x (c / 2) ys, e]
    split <;> rfl
theorem pickL_add {α : Type} : ∀ (k c : Nat) (xs : List α), pickL (2 ^ xs.length * k + c) xs = pickL c xs
  | _, _, [] => rfl
  | k, c, x :: xs => by
    have e1 : (2 ^ (x :: xs).length * k + c) % 2 = c % 2 := by
      rw [List.length_cons, Nat.pow_succ, Nat.mul_right_comm, Nat.add_comm, Nat.add_mul_mod_self_right]
    have e2 : (2 ^ (x :: xs).length * k + c) / 2 = 2 ^ xs.length * k + c / 2 := by
      rw [List.length_cons, Nat.pow_succ, Nat.mul_right_comm, Nat.add_comm, Nat.add_mul_div_right _ _ (by decide), Nat.add_comm]
    rw [pickL, pickL, e1, e2, pickL_add k (c / 2) xs]
theorem chosenL_snoc {α : Type} (xs : List α) (x : α) : chosenL (xs ++ [x]) = chosenL xs ++ (chosenL xs).map (· ++ [x]) := by
  unfold chosenL
  rw [List.length_append, List.length_singleton, Nat.pow_succ, Nat.mul_two, List.range_add, List.map_append, List.map_map, List.map_map]
  congr 1
  · apply List.map_congr_left
    intro c hc
    have h := List.mem_range.mp hc
    rw [pickL_snoc, Nat.div_eq_of_lt h]
    simp
  · apply List.map_congr_left
    intro c hc
    have h := List.mem_range.mp hc
    show pickL (2 ^ xs.length + c) (xs ++ [x]) = pickL c xs ++ [x]
    have e : (2 ^ xs.length + c) / 2 ^ xs.length % 2 = 1 := by
      rw [Nat.add_div_left _ (Nat.two_pow_pos _), Nat.div_eq_of_lt h]
    have e2 : pickL (2 ^ xs.length + c) xs = pickL c xs := by
      have := pickL_add 1 c xs
      rwa [Nat.mul_one] at this
    rw [pickL_snoc, if_pos e, e2]
theorem choicesL_range : ∀ m : Nat, choicesL m = chosenL ((List.range m).map fun (i : Nat) => (i : Int))
  | 0 => rfl
  | m + 1 => by
    rw [choicesL, choicesL_range m, List.range_succ, List.map_append, List.map_singleton, chosenL_snoc]
theorem pickL_at (c : Nat) {α : Type} (d : α) : ∀ (i : Nat) (xs : List α), (pickL c ((List.range' i xs.length).map fun (i : Nat) => (i : Int))).map (fun j => (List.replicate i d ++ xs).getD j.toNat d) = pickL c xs := by
  intro i xs
  rw [← pickL_map, List.map_map]
  congr 1
  apply List.ext_getElem
  · simp
  · intro j h1 h2
    rw [List.getElem_map, List.getElem_range']
    show (List.replicate i d ++ xs).getD (((i + 1 * j : Nat) : Int)).toNat d = xs[j]
    rw [Int.toNat_natCast, List.getD_eq_getElem?_getD, List.getElem?_append_right (by simp)]
    simp [h2]
/-- the numbers' choices lead to the things' choices -/
theorem chosenL_at {α : Type} (d : α) (xs : List α) : chosenL xs = (choicesL xs.length).map fun c => c.map fun j => xs.getD j.toNat d := by
  rw [choicesL_range]
  unfold chosenL
  rw [List.map_map, List.length_map, List.length_range]
  apply List.map_congr_left
  intro c _
  have := pickL_at c d 0 xs
  rw [List.replicate_zero, List.nil_append] at this
  show pickL c xs = (pickL c ((List.range xs.length).map fun (i : Nat) => (i : Int))).map fun j => xs.getD j.toNat d
  rw [List.range_eq_range', this]
theorem choicesL_mem {m : Nat} {c : List Int} (h : c ∈ choicesL m) : ∀ j ∈ c, 0 ≤ j ∧ j < m := by
  intro j hj
  rw [choicesL_range] at h
  have := (chosenL_sub h).subset hj
  obtain ⟨i, hi, rfl⟩ := List.mem_map.mp this
  have := List.mem_range.mp hi
  omega
end Dt

/-! # Dt: dicts of our own, and such that never change -/
namespace Dt
open PySem PySem.Spec PyProof.Rows L2
def keyOf : D → Option Key
  | .int i => some (.inl i)
  | .str x => some (.inr x)
  | _ => none
def valD (kvs : List (Key × D)) (k : Key) : Option D := (kvs.find? fun kv => decide (kv.1 = k)).map (·.2)
def putD (kvs : List (Key × D)) (k : Key) (d : D) : List (Key × D) :=
  if (kvs.any fun kv => decide (kv.1 = k)) = true then kvs.map (fun kv => if kv.1 = k then (kv.1, d) else kv) else kvs ++ [(k, d)]
def dropD (kvs : List (Key × D)) (k : Key) : List (Key × D) := kvs.filter fun kv => decide (kv.1 ≠ k)
section
variable {p : Pm} {I H : Hp}
theorem KD.any {kv : List (Key × V)} {kvs : List (Key × D)} (h : KD p I kv kvs) (k : Key) : (kv.any fun u => decide (u.1 = k)) = (kvs.any fun u => decide (u.1 = k)) := by
  induction h with
  | nil => rfl
  | cons r rr ih => rw [List.any_cons, List.any_cons, ih, r.1]
theorem KD.val {kv : List (Key × V)} {kvs : List (Key × D)} (h : KD p I kv kvs) (k : Key) : (∀ d, valD kvs k = some d → ∃ v, valV kv k = some v ∧ Dd p I v d) ∧ (valD kvs k = none → valV kv k = none) := by
  induction h with
  | nil => exact ⟨fun d z => (by cases z), fun _ => rfl⟩
  | @cons u q us qs r rr ih =>
    by_cases e : q.1 = k
    · have e' : u.1 = k := r.1.trans e
      have b : valD (q :: qs) k = some q.2 := by simp [valD, List.find?_cons, e]
      rw [valV_pos e', b]
      exact ⟨fun d z => (by cases z; exact ⟨_, rfl, r.2⟩), fun z => (by cases z)⟩
    · have e' : ¬ u.1 = k := fun z => e (r.1.symm.trans z)
      have b : valD (q :: qs) k = valD qs k := by simp [valD, List.find?_cons, e]
      rw [valV_neg e', b]
      exact ih
theorem KD.append {kv kv' : List (Key × V)} {kvs kvs' : List (Key × D)} (h : KD p I kv kvs) (h' : KD p I kv' kvs') : KD p I (kv ++ kv') (kvs ++ kvs') := by
  induction h with
  | nil => exact h'
  | cons r rr ih => exact .cons r ih
theorem KD.repl {kv : List (Key × V)} {kvs : List (Key × D)} {v : V} {d : D} (h : KD p I kv kvs) (k : Key) (r : Dd p I v d) : KD p I (kv.map fun u => if u.1 = k then (u.1, v) else u) (kvs.map fun u => if u.1 = k then (u.1, d) else u) := by
  induction h with
  | nil => exact .nil
  | @cons u q us qs r1 rr ih =>
    rw [List.map_cons, List.map_cons]
    refine .cons ?_ ih
    by_cases e : q.1 = k
    · rw [if_pos e, if_pos (r1.1.trans e)]; exact ⟨r1.1, r⟩
    · rw [if_neg e, if_neg (fun z => e (r1.1.symm.trans z))]; exact r1
theorem KD.put {kv : List (Key × V)} {kvs : List (Key × D)} {v : V} {d : D} (h : KD p I kv kvs) (k : Key) (r : Dd p I v d) : KD p I (putK kv k v) (putD kvs k d) := by
  unfold putK putD
  rw [h.any k]
  split
  · exact h.repl k r
  · exact h.append (.cons ⟨rfl, r⟩ .nil)
theorem KD.drop {kv : List (Key × V)} {kvs : List (Key × D)} (h : KD p I kv kvs) (k : Key) : KD p I (dropK kv k) (dropD kvs k) := by
  unfold dropK dropD
  induction h with
  | nil => exact .nil
  | @cons u q us qs r rr ih =>
    rw [List.filter_cons, List.filter_cons]
    by_cases e : q.1 = k
    · have e' : u.1 = k := r.1.trans e
      rw [if_neg (by rw [decide_eq_true_eq]; exact fun z => z e'), if_neg (by rw [decide_eq_true_eq]; exact fun z => z e)]; exact ih
    · have e' : ¬ u.1 = k := fun z => e (r.1.symm.trans z)
      rw [if_pos (by rw [decide_eq_true_eq]; exact e'), if_pos (by rw [decide_eq_true_eq]; exact e)]; exact .cons r ih
theorem KD.keys {kv : List (Key × V)} {kvs : List (Key × D)} (h : KD p I kv kvs) : DdAll p I (kv.map fun u => kV u.1) (kvs.map fun u => keyD u.1) := by
  induction h with
  | nil => exact .nil
  | @cons u q us qs r rr ih =>
    rw [List.map_cons, List.map_cons, r.1]
    refine .cons ?_ ih
    cases q.1 with
    | inl i => exact .int i
    | inr x => exact .str x
theorem KD.length {kv : List (Key × V)} {kvs : List (Key × D)} (h : KD p I kv kvs) : kv.length = kvs.length := Paired.length h
end
/-- a frozen dict's pairs -/
def unkD : List (D × D) → Option (List (Key × D))
  | [] => some []
  | (k, d) :: r => match keyOf k with
    | some c => (match unkD r with
      | some ds => some ((c, d) :: ds)
      | none => none)
    | none => none
/-- the pairs of a dict in hand -/
def dcs (ρ : Rho) : O → Option (List (Key × D))
  | .loc j => (match cst ρ j with
    | some (.dic kvs) => some kvs
    | some _ => none
    | none => (match dat ρ j with
      | some (.dict ((.none, .none) :: ds)) => unkD ds
      | _ => none))
  | .tmp (.dic kvs) => some kvs
  | .d (.dict ((.none, .none) :: ds)) => unkD ds
  | _ => none
def dicO (ρ : Rho) (o : O) (k : List (Key × D) → Prop) : Prop := match dcs ρ o with
  | some kvs => k kvs
  | none => False
section
variable {p : Pm} {F F' F0 : Lab} {I I' I0 H0 H1 H H' : Hp} {σ : L2.St} {ρ ρ' : Rho} {v w : V} {o : O} {d : D}
/-- a new dict -/
theorem Kont.dic {P : O → Prop} {Q : VK} {kv : List (Key × V)} {kvs : List (Key × D)} {q : Addr} (k : Kont p F I H σ ρ P Q) (R : Rel p F I H σ ρ) (h : P (.tmp (.dic kvs))) (r : KD p I kv kvs) (n : H q = none) : Q (.ref q) (upd H q (.dK kv)) := by
  obtain ⟨R', S⟩ := R.newT (x := .dK kv) n
  refine k _ _ _ _ h S R' ⟨q, rfl, [q], ⟨rfl, kv, upd_same, r⟩, fun b hb => ?_⟩
  have e : b = q := by simpa using hb
  subst e
  exact ⟨R.lab0 n, R.fresh n, n, by rw [upd_same]; simp⟩
end
end Dt

/-! # Dt: joined heaps, by plain lists -/
namespace Dt
open PySem PySem.Spec PyProof.Rows L2
/-- each once, in the order of their first standing -/
def addNew (s : List Int) (x : Int) : List Int := if x ∈ s then s else s ++ [x]
def seenL (xs : List Int) : List Int := xs.foldl addNew []
theorem seen_from : ∀ (xs s : List Int), s.Nodup → (xs.foldl addNew s).Nodup ∧ (∀ y, y ∈ xs.foldl addNew s ↔ y ∈ s ∨ y ∈ xs) ∧ (xs.foldl addNew s).length ≤ s.length + xs.length
  | [], s, h => ⟨h, by simp, by simp⟩
  | x :: xs, s, h => by
    have h1 : (addNew s x).Nodup := by
      unfold addNew
      split
      · exact h
      · rename_i hx
        exact List.nodup_append.mpr ⟨h, by simp, by simp; intro a ha e; exact hx (e ▸ ha)⟩
    have h2 : ∀ y, y ∈ addNew s x ↔ y ∈ s ∨ y = x := by
      intro y
      unfold addNew
      split
      · rename_i hx
        exact ⟨.inl, fun q => q.elim id fun q => q ▸ hx⟩
      · simp
    have h3 : (addNew s x).length ≤ s.length + 1 := by
      unfold addNew
      split <;> simp
    obtain ⟨i1, i2, i3⟩ := seen_from xs (addNew s x) h1
    refine ⟨i1, fun y => ?_, ?_⟩
    · rw [List.foldl_cons, i2, h2]; simp [or_assoc]
    · rw [List.foldl_cons]; simp; omega
theorem seenL_nodup (xs : List Int) : (seenL xs).Nodup := (seen_from xs [] (by simp)).1
theorem seenL_mem {xs : List Int} {y : Int} : y ∈ seenL xs ↔ y ∈ xs := by
  have := (seen_from xs [] (by simp)).2.1 y
  unfold seenL
  simpa using this
/-- the parts of some heaps, each once, falling -/
def partsL (r : List Heap1) : List Int := (srt (seenL r.flatten)).reverse
theorem partsL_nodup (r : List Heap1) : (partsL r).Nodup := (perm_srtR _).nodup_iff.mpr (seenL_nodup _)
theorem partsL_mem {r : List Heap1} {y : Int} : y ∈ partsL r ↔ ∃ h ∈ r, y ∈ h := by
  unfold partsL
  rw [mem_srtR, seenL_mem, List.mem_flatten]
/-- how often at most, in one of them -/
def mxC (r : List Heap1) (x : Int) : Nat := (r.map fun h => h.count x).foldr max 0
theorem mxC_ge {r : List Heap1} {h : Heap1} (hh : h ∈ r) (x : Int) : h.count x ≤ mxC r x := by
  unfold mxC
  induction r with
  | nil => cases hh
  | cons g r ih =>
    rw [List.map_cons, List.foldr_cons]
    rcases List.mem_cons.mp hh with rfl | hh
    · omega
    · have := ih hh; omega
theorem mxC_le {r : List Heap1} {x : Int} {n : Nat} (h : ∀ g ∈ r, g.count x ≤ n) : mxC r x ≤ n := by
  unfold mxC
  induction r with
  | nil => simp
  | cons g r ih =>
    rw [List.map_cons, List.foldr_cons]
    have := h g (by simp)
    have := ih fun g hg => h g (by simp [hg])
    omega
theorem mxC_flat {r : List Heap1} {x : Int} : mxC r x ≤ r.flatten.count x := mxC_le fun g hg => by
  induction r with
  | nil => cases hg
  | cons a r ih =>
    rw [List.flatten_cons, List.count_append]
    rcases List.mem_cons.mp hg with rfl | hg
    · omega
    · have := ih hg; omega
theorem mxC_pos {r : List Heap1} {x : Int} (h : 0 < mxC r x) : ∃ g ∈ r, x ∈ g := by
  rcases Classical.em (∃ g ∈ r, x ∈ g) with q | q
  · exact q
  · have : mxC r x ≤ 0 := mxC_le fun g hg => by
      rw [List.count_eq_zero.mpr fun hx => q ⟨g, hg, hx⟩]; exact Nat.le_refl _
    omega
/-- each part as often as told -/
def repL (f : Int → Nat) (ps : List Int) : List Int := ps.flatMap fun x => List.replicate (f x) x
theorem repL_count (f : Int → Nat) (x : Int) : ∀ {ps : List Int}, ps.Nodup → (repL f ps).count x = if x ∈ ps then f x else 0
  | [], _ => rfl
  | p :: ps, h => by
    have ih := repL_count f x (List.nodup_cons.mp h).2
    have hp := (List.nodup_cons.mp h).1
    show (List.replicate (f p) p ++ repL f ps).count x = _
    rw [List.count_append, ih, List.count_replicate]
    by_cases e : p = x
    · subst e
      simp [hp]
    · have e2 : x ≠ p := fun z => e z.symm
      simp [e, e2]
/-- the joined heap -/
def joinL (r : List Heap1) : Heap1 := repL (mxC r) (partsL r)
theorem joinL_count (r : List Heap1) (x : Int) : (joinL r).count x = mxC r x := by
  unfold joinL
  rw [repL_count _ _ (partsL_nodup r)]
  split
  · rfl
  · rename_i h
    by_cases e : mxC r x = 0
    · exact e.symm
    · exact absurd (partsL_mem.mpr (mxC_pos (by omega))) h
theorem repL_len (f : Int → Nat) (ps : List Int) (ys : List Int) (hn : ps.Nodup) (h : ∀ x, f x ≤ ys.count x) : (repL f ps).length ≤ ys.length := by
  have := (takeOff_perm (repL f ps) ys fun x => by
    rw [repL_count f x hn]
    split
    · exact h x
    · exact Nat.zero_le _).length_eq
  rw [this, List.length_append]
  omega
theorem joinL_len (r : List Heap1) : (joinL r).length ≤ r.flatten.length := repL_len _ _ _ (partsL_nodup r) fun _ => mxC_flat
def okJ (r : List Heap1) : Prop := r.length ≤ 1000 ∧ ∀ h ∈ r, h.length ≤ 1000
theorem flat_le {c : Nat} : ∀ {r : List Heap1}, (∀ h ∈ r, h.length ≤ c) → r.flatten.length ≤ c * r.length
  | [], _ => by simp
  | h :: r, q => by
    have := flat_le (r := r) fun g hg => q g (by simp [hg])
    have := q h (by simp)
    rw [List.flatten_cons, List.length_append, List.length_cons, Nat.mul_add]
    omega
theorem okJ.flat {r : List Heap1} (h : okJ r) : r.flatten.length ≤ 1000000 := by
  have := flat_le h.2
  have := Nat.mul_le_mul_left 1000 h.1
  omega
theorem okJ.join {r : List Heap1} (h : okJ r) : (joinL r).length ≤ 1000000 := Nat.le_trans (joinL_len r) h.flat
theorem joinL_mem {r : List Heap1} {x : Int} : x ∈ joinL r ↔ ∃ h ∈ r, x ∈ h := by
  rw [← List.count_pos_iff, joinL_count]
  constructor
  · exact mxC_pos
  · rintro ⟨h, hh, hx⟩
    have := mxC_ge hh x
    have := List.count_pos_iff.mpr hx
    omega
/-- the heaps that a choice names -/
def pickC (r : List Heap1) (c : List Int) : List Heap1 := c.map fun j => r.getD j.toNat []
theorem pickC_mem {r : List Heap1} {c : List Int} (h : ∀ j ∈ c, 0 ≤ j ∧ j < r.length) : ∀ g ∈ pickC r c, g ∈ r := by
  intro g hg
  obtain ⟨j, hj, rfl⟩ := List.mem_map.mp hg
  have := h j hj
  have e : j.toNat < r.length := by omega
  rw [List.getD_eq_getElem?_getD, List.getElem?_eq_getElem e]
  exact List.getElem_mem e
end Dt

/-! # Dt: pairs, by plain lists -/
namespace Dt
open PySem PySem.Spec PyProof.Rows L2
theorem perm_sum {a b : List Int} (h : a.Perm b) : a.sum = b.sum := by
  induction h with
  | nil => rfl
  | cons x _ ih => rw [List.sum_cons, List.sum_cons, ih]
  | swap x y l => simp only [List.sum_cons]; omega
  | trans _ _ h1 h2 => exact h1.trans h2
end Dt

/-! # Dt: polynomials, by plain lists -/
namespace Dt
open PySem PySem.Spec PyProof.Rows L2
theorem sum_map_congr {α : Type} {f g : α → Int} {l : List α} (h : ∀ x ∈ l, f x = g x) : (l.map f).sum = (l.map g).sum := by
  rw [List.map_congr_left h]
def okM (a b : List Int) : Prop := ∀ x ∈ a, ∀ y ∈ b, mulOk x y
theorem okM.swap {a b : List Int} (h : okM a b) : okM b a := fun x hx y hy => by
  have := h y hy x hx
  unfold mulOk at *
  omega
end Dt

/-! # Dt: stores of rows -/
namespace Dt
open PySem PySem.Spec PyProof.Rows L2
/-- how often a row's part may be taken in a heap of n -/
def manyR (p : Nat) (m : Option Int) (n : Nat) : Nat := match m with | none => n / p | some m => min (n / p) m.toNat
end Dt

/-! # Dt: numbers by places, as functions -/
namespace Dt
open PySem PySem.Spec PyProof.Rows L2
/-- less itself, moved p places on -/
def sh (p : Nat) (f : Nat → Int) (n : Nat) : Int := f n - if p ≤ n then f (n - p) else 0
def co (a : List Int) (i : Nat) : Int := a.getD i 0
def lessL (a : List Int) (p : Nat) : List Int := (List.range (a.length + p)).map (sh p (co a))
def topS (a : List Int) (r : Int × Option Int) : List Int := match r.2 with | none => a | some m => lessL a (r.1 * (m + 1)).toNat
end Dt

/-! # Dt: rows as functions; five-cornered numbers -/
namespace Dt
open PySem PySem.Spec PyProof.Rows L2
def dl (n : Nat) : Int := if n = 0 then 1 else 0
def tri : Nat → Nat
  | 0 => 0
  | s + 1 => tri s + s + 1
def sg (s : Nat) : Int := if s % 2 = 0 then 1 else -1
def g1 (m : Nat) : Nat := m * m + tri (m - 1)
def g2 (m : Nat) : Nat := m * m + tri m
/-- a row, as a function -/
def rowF (f : Nat → Int) (p : Nat) (m : Option Int) (n : Nat) : Int := ((List.range (manyR p m n + 1)).map fun k => f (n - k * p)).sum
def rowG (f : Nat → Int) (r : Int × Option Int) : Nat → Int := rowF f r.1.toNat r.2
def numsF (s : List (Int × Option Int)) : Nat → Int := s.foldl rowG dl
/-- all parts up to n, as often as one likes -/
def parts (n : Nat) : List (Int × Option Int) := (List.range n).map fun j : Nat => (1 + (j : Int), none)
/-- the number of partings of n -/
def pF (n : Nat) : Int := numsF (parts n) n
end Dt

/-! # Dt: how many keep a rule -/
namespace Dt
open PySem PySem.Spec PyProof.Rows L2
/-- sum over all choices of a rule, with signs -/
def ieS (r : List Heap1) (f : List Heap1 → Int) : Int := ((chosenL r).map fun ys => sg ys.length * f ys).sum
/-- the count by all choices -/
def keepN (r : List Heap1) (n : Nat) : Int := ieS r fun ys => if (joinL ys).sum ≤ (n : Int) then pF (n - (joinL ys).sum.toNat) else 0
def posR (r : List Heap1) : Prop := ∀ h ∈ r, ∀ x ∈ h, 1 ≤ x
theorem joinL_pos {ys : List Heap1} (h : posR ys) : ∀ x ∈ joinL ys, 1 ≤ x := fun x hx => by
  have h1 := List.count_pos_iff.mpr hx
  rw [joinL_count] at h1
  obtain ⟨g, hg, hx⟩ := mxC_pos h1
  exact h g hg x hx
theorem keepN_choices (r : List Heap1) (n : Nat) : keepN r n = ((choicesL r.length).map fun c => sg c.length * if (joinL (pickC r c)).sum ≤ (n : Int) then pF (n - (joinL (pickC r c)).sum.toNat) else 0).sum := by
  unfold keepN ieS
  rw [chosenL_at ([] : Heap1) r, List.map_map]
  refine sum_map_congr fun c _ => ?_
  show sg (c.map _).length * _ = _
  rw [List.length_map]
  rfl
end Dt

/-! # Dt: strict heaps, and how they shift -/
namespace Dt
open PySem PySem.Spec PyProof.Rows L2
def strictB (h : Heap1) : Bool := (h.zip (h.drop 1)).all fun p => decide (p.1 > p.2)
theorem strictB_iff {h : Heap1} : strictB h = true ↔ h.Pairwise (· > ·) := by
  unfold strictB
  rw [List.all_eq_true]
  induction h with
  | nil => simp
  | cons x t ih =>
    cases t with
    | nil => simp
    | cons y t =>
      have e : ((x :: y :: t).zip ((x :: y :: t).drop 1)) = (x, y) :: ((y :: t).zip ((y :: t).drop 1)) := rfl
      rw [e]
      constructor
      · intro q
        have h1 := ih.mp fun p hp => q p (List.mem_cons_of_mem _ hp)
        have h2 : x > y := by simpa using q (x, y) (by simp)
        refine List.pairwise_cons.mpr ⟨fun z hz => ?_, h1⟩
        rcases List.mem_cons.mp hz with rfl | hz
        · exact h2
        · exact Int.lt_trans ((List.pairwise_cons.mp h1).1 z hz) h2
      · intro q p hp
        obtain ⟨q1, q2⟩ := List.pairwise_cons.mp q
        rcases List.mem_cons.mp hp with rfl | hp
        · simpa using q1 y (by simp)
        · exact ih.mpr q2 p hp
/-- a strict heap: a slope of r parts from t down, then the rest -/
def runL (t : Int) (r : Nat) (rest : List Int) : List Int := ((List.range r).map fun i : Nat => t - (i : Int)) ++ rest
structure okRun (t : Int) (r : Nat) (rest : List Int) : Prop where
  r1 : 1 ≤ r
  low : ∀ x ∈ rest, x ≤ t - r - 1
  pos : ∀ x ∈ rest, 1 ≤ x
  dn : rest.Pairwise (· > ·)
  bot : (r : Int) ≤ t
theorem runL_strict {t : Int} {r : Nat} {rest : List Int} (hd : rest.Pairwise (· > ·)) (hl : ∀ x ∈ rest, x < t - r + 1) : (runL t r rest).Pairwise (· > ·) := by
  unfold runL
  refine List.pairwise_append.mpr ⟨?_, hd, fun a ha b hb => ?_⟩
  · rw [List.pairwise_map]
    refine (List.pairwise_lt_range (n := r)).imp ?_
    intro a b hab
    show t - (a : Int) > t - (b : Int)
    omega
  · obtain ⟨i, hi, rfl⟩ := List.mem_map.mp ha
    have := List.mem_range.mp hi
    have := hl b hb
    show t - (i : Int) > b
    omega
theorem runL_pos {t : Int} {r : Nat} {rest : List Int} (ht : (r : Int) ≤ t) (hp : ∀ x ∈ rest, 1 ≤ x) : ∀ x ∈ runL t r rest, 1 ≤ x := by
  intro x hx
  unfold runL at hx
  rcases List.mem_append.mp hx with hx | hx
  · obtain ⟨i, hi, rfl⟩ := List.mem_map.mp hx
    have := List.mem_range.mp hi
    omega
  · exact hp x hx
theorem okRun.good {t : Int} {r : Nat} {rest : List Int} (o : okRun t r rest) : strictB (runL t r rest) = true ∧ ∀ x ∈ runL t r rest, 1 ≤ x :=
  ⟨strictB_iff.mpr (runL_strict o.dn fun x hx => by have := o.low x hx; omega), runL_pos o.bot o.pos⟩
end Dt

/-! # Dt: two rules made of lanes match -/
namespace Dt
open PySem PySem.Spec PyProof.Rows L2
/-- the sum of the joined heap of a choice's rows -/
def jS (r : List Heap1) (c : List Int) : Int := (joinL (pickC r c)).sum
def okC (m : Nat) (c : List Int) : Prop := ∀ j ∈ c, 0 ≤ j ∧ j < (m : Int)
/-! a lane: heaps by the level -/
structure LaneF (f : Nat → Heap1) : Prop where
  nil : f 0 = []
  mono : ∀ a b x, a ≤ b → (f a).count x ≤ (f b).count x
  down : ∀ a, (f a).Pairwise (· ≥ ·)
theorem sum_rep (n : Nat) (x : Int) : (List.replicate n x).sum = n * x := by
  induction n with
  | zero => simp
  | succ n ih => rw [List.replicate_succ, List.sum_cons, ih]; push_cast; rw [Int.add_mul]; omega
/-- so often by the level -/
def timesF (k : Nat) (x : Int) (v : Nat) : Heap1 := List.replicate (v * k) x
theorem timesF_lane (k : Nat) (x : Int) : LaneF (timesF k x) := by
  refine ⟨by simp [timesF], fun a b y h => ?_, fun a => ?_⟩
  · unfold timesF
    rw [List.count_replicate, List.count_replicate]
    have := Nat.mul_le_mul_right k h
    split <;> omega
  · unfold timesF
    rw [List.pairwise_replicate]
    exact .inr (Int.le_refl x)
/-- the other side of a lane that is split: the part itself once, then so many of the other's -/
def splitF (l r : Int) (k : Nat) (v : Nat) : Heap1 := (l :: List.replicate k r).take (if v = 0 then 0 else if v = 1 then 1 else 1 + k)
theorem splitF_lane {l r : Int} (k : Nat) (h : r ≤ l) : LaneF (splitF l r k) := by
  have full : (l :: List.replicate k r).take (1 + k) = l :: List.replicate k r := List.take_of_length_le (by simp; omega)
  refine ⟨by simp [splitF], fun a b y hab => ?_, fun a => ?_⟩
  · unfold splitF
    have hle : (if a = 0 then 0 else if a = 1 then 1 else 1 + k) ≤ (if b = 0 then 0 else if b = 1 then 1 else 1 + k) := by
      split
      · omega
      · split
        · split
          · omega
          · split <;> omega
        · split
          · omega
          · split <;> omega
    exact ((List.take_sublist_take_left hle)).count_le y
  · unfold splitF
    refine List.Pairwise.sublist (List.take_sublist _ _) ?_
    rw [List.pairwise_cons, List.pairwise_replicate]
    exact ⟨fun y hy => by rw [List.eq_of_mem_replicate hy]; exact h, .inr (Int.le_refl r)⟩
theorem splitF_sum {l r : Int} {k : Nat} (h : (k : Int) * r = l) {v : Nat} (hv : v ≤ 2) : (splitF l r k v).sum = v * l := by
  have full : (l :: List.replicate k r).take (1 + k) = l :: List.replicate k r := List.take_of_length_le (by simp; omega)
  unfold splitF
  rcases Nat.lt_or_ge v 1 with z | z
  · have : v = 0 := by omega
    subst this; simp
  · rcases Nat.lt_or_ge v 2 with z2 | z2
    · have : v = 1 := by omega
      subst this; simp
    · have : v = 2 := by omega
      subst this
      rw [if_neg (by decide), if_neg (by decide), full, List.sum_cons, sum_rep, h]
      push_cast
      omega
theorem timesF_sum (k : Nat) (x : Int) (v : Nat) : (timesF k x v).sum = v * (k * x) := by
  unfold timesF
  rw [sum_rep]
  push_cast
  rw [Int.mul_assoc]
theorem timesF_mem {k : Nat} {x y : Int} {v : Nat} (h : y ∈ timesF k x v) : y = x := List.eq_of_mem_replicate h
theorem splitF_mem {l r y : Int} {k v : Nat} (h : y ∈ splitF l r k v) : y = l ∨ y = r := by
  rcases List.mem_cons.mp (List.mem_of_mem_take h) with h | h
  · exact .inl h
  · exact .inr (List.eq_of_mem_replicate h)
theorem timesF_len (k : Nat) (x : Int) (v : Nat) : (timesF k x v).length = v * k := by unfold timesF; simp
theorem splitF_len (l r : Int) (k v : Nat) : (splitF l r k v).length ≤ 1 + k := by unfold splitF; rw [List.length_take]; simp; omega
structure Mates (n : Nat) (r s : List Heap1) : Prop where
  len : r.length = s.length
  most : r.length ≤ n
  h1 : ∀ a ∈ r, isHeap a ∧ a.length ≤ 60 ∧ ∀ x ∈ a, x ≤ 64
  h2 : ∀ a ∈ s, isHeap a ∧ a.length ≤ 60 ∧ ∀ x ∈ a, x ≤ 64
  same : ∀ c, okC r.length c → jS r c = jS s c
theorem Mates.symm {n : Nat} {r s : List Heap1} (h : Mates n r s) : Mates n s r :=
  ⟨h.len.symm, by rw [← h.len]; exact h.most, h.h2, h.h1, fun c hc => (h.same c (by rw [h.len]; exact hc)).symm⟩
structure LaneP (l r : Int) (s : Bool) (f g : Nat → Heap1) : Prop where
  F : LaneF f
  G : LaneF g
  sum : ∀ a, a ≤ 2 → (f a).sum = (g a).sum
  mf : ∀ a, ∀ x ∈ f a, x = l
  mg : ∀ a, ∀ x ∈ g a, x = r ∨ (s = true ∧ x = l)
  bf : ∀ a, a ≤ 2 → (f a).length ≤ 16
  bg : ∀ a, a ≤ 2 → (g a).length ≤ 16
  cf : ∀ a, a ≤ 2 → ((f a).length : Int) ≤ 2 * r
  cg : ∀ a, a ≤ 2 → ((g a).length : Int) ≤ 2 * l
theorem LaneP.plain {l r a b g : Int} (hl : 1 ≤ l ∧ l ≤ 8) (hr : 1 ≤ r ∧ r ≤ 8) (ha : 1 ≤ a) (hb : 1 ≤ b) (hg : 1 ≤ g) (el : a * g = l) (er : b * g = r) : LaneP l r false (timesF b.toNat l) (timesF a.toNat r) := by
  have a8 : a ≤ 8 := by
    have := Int.mul_le_mul_of_nonneg_left hg (show 0 ≤ a by omega)
    omega
  have b8 : b ≤ 8 := by
    have := Int.mul_le_mul_of_nonneg_left hg (show 0 ≤ b by omega)
    omega
  have al : a ≤ l := by
    have := Int.mul_le_mul_of_nonneg_left hg (show 0 ≤ a by omega)
    omega
  have br : b ≤ r := by
    have := Int.mul_le_mul_of_nonneg_left hg (show 0 ≤ b by omega)
    omega
  refine ⟨timesF_lane _ _, timesF_lane _ _, fun v _ => ?_, fun _ _ h => timesF_mem h, fun _ _ h => .inl (timesF_mem h), fun v hv => ?_, fun v hv => ?_, fun v hv => ?_, fun v hv => ?_⟩
  · rw [timesF_sum, timesF_sum, Int.toNat_of_nonneg (by omega), Int.toNat_of_nonneg (by omega), ← el, ← er]
    congr 1
    rw [← Int.mul_assoc, ← Int.mul_assoc, Int.mul_comm b a]
  · rw [timesF_len]
    have : v * b.toNat ≤ 2 * 8 := Nat.mul_le_mul hv (by omega)
    omega
  · rw [timesF_len]
    have : v * a.toNat ≤ 2 * 8 := Nat.mul_le_mul hv (by omega)
    omega
  · rw [timesF_len]
    have : v * b.toNat ≤ 2 * b.toNat := Nat.mul_le_mul_right _ hv
    omega
  · rw [timesF_len]
    have : v * a.toNat ≤ 2 * a.toNat := Nat.mul_le_mul_right _ hv
    omega
theorem LaneP.split {l r : Int} (hl : 1 ≤ l ∧ l ≤ 8) (hr : 1 ≤ r ∧ r ≤ 8) (hd : l % r = 0) (hlt : r < l) : LaneP l r true (timesF 1 l) (splitF l r (l / r).toNat) := by
  have e : (l / r) * r = l := Int.ediv_mul_cancel (Int.dvd_of_emod_eq_zero hd)
  have q0 : 0 ≤ l / r := Int.ediv_nonneg (by omega) (by omega)
  have q8 : l / r ≤ 8 := by
    have := Int.ediv_le_self r (show 0 ≤ l by omega)
    omega
  refine ⟨timesF_lane _ _, splitF_lane _ (by omega), fun v hv => ?_, fun _ _ h => timesF_mem h, fun _ _ h => (splitF_mem h).elim (fun z => .inr ⟨rfl, z⟩) .inl, fun v hv => ?_, fun v hv => ?_, fun v hv => ?_, fun v hv => ?_⟩
  · rw [timesF_sum, splitF_sum (by rw [Int.toNat_of_nonneg q0, e]) hv]
    simp
  · rw [timesF_len]; omega
  · have := splitF_len l r (l / r).toNat v
    omega
  · rw [timesF_len]
    omega
  · have := splitF_len l r (l / r).toNat v
    have := Int.ediv_le_self r (show 0 ≤ l by omega)
    omega
theorem Mates.pos {n : Nat} {r s : List Heap1} (h : Mates n r s) : posR r := fun g hg x hx => (h.h1 g hg).1.2 x hx
theorem Mates.okJ {n : Nat} {r s : List Heap1} (h : Mates n r s) (hn : n ≤ 6) : okJ r := ⟨by have := h.most; omega, fun g hg => by have := (h.h1 g hg).2.1; omega⟩
theorem Mates.keep {n : Nat} {r s : List Heap1} (h : Mates n r s) (m : Nat) : keepN r m = keepN s m := by
  rw [keepN_choices, keepN_choices, ← h.len]
  congr 1
  refine List.map_congr_left fun c hc => ?_
  have : jS r c = jS s c := h.same c (choicesL_mem hc)
  unfold jS at this
  rw [this]
end Dt

/-! # Dt: signed pairs -/
namespace Dt
open PySem PySem.Spec PyProof.Rows L2
structure PairP (r : List Heap1) (p : Heap1 × Heap1) : Prop where
  up : p.2.Pairwise (· < ·)
  at' : ∀ n ∈ p.2, 0 ≤ n ∧ n < (r.length : Int)
  lies : ∀ n ∈ p.2, liesIn (r.getD n.toNat []) p.1 = true
def flip1 (j : Int) (c : List Int) : List Int := if j ∈ c then c.filter (fun x => decide (x ≠ j)) else srt (c ++ [j])
def partL (r : List Heap1) (p : Heap1 × Heap1) : Option (Heap1 × Heap1) := (firstN r p.1).map fun j : Nat => (p.1, flip1 (j : Int) p.2)
theorem first_lies {r : List Heap1} {h : Heap1} {j : Nat} (e : firstN r h = some j) : j < r.length ∧ liesIn (r.getD j []) h = true := by
  obtain ⟨hj, h1, _⟩ := List.findIdx?_eq_some_iff_getElem.mp e
  refine ⟨hj, ?_⟩
  rw [List.getD_eq_getElem?_getD, List.getElem?_eq_getElem hj]
  exact h1
theorem lt_nodup {c : List Int} (h : c.Pairwise (· < ·)) : c.Nodup := h.imp fun h e => by omega
theorem lt_of_le {c : List Int} (h : c.Pairwise (· ≤ ·)) (d : c.Nodup) : c.Pairwise (· < ·) := lt_of_le_nodup c h d
theorem mem_srt {c : List Int} {x : Int} : x ∈ srt c ↔ x ∈ c := (srt_perm c).mem_iff
theorem flip1_mem {j x : Int} {c : List Int} : x ∈ flip1 j c ↔ (x = j ∧ j ∉ c) ∨ (x ≠ j ∧ x ∈ c) := by
  unfold flip1
  split
  · rename_i h
    rw [List.mem_filter, decide_eq_true_iff]
    constructor
    · rintro ⟨a, b⟩; exact .inr ⟨b, a⟩
    · rintro (⟨_, b⟩ | ⟨a, b⟩)
      · exact absurd h b
      · exact ⟨b, a⟩
  · rename_i h
    rw [mem_srt, List.mem_append, List.mem_singleton]
    constructor
    · rintro (a | a)
      · exact .inr ⟨fun e => h (e ▸ a), a⟩
      · exact .inl ⟨a, h⟩
    · rintro (⟨a, _⟩ | ⟨_, b⟩)
      · exact .inr a
      · exact .inl b
theorem flip1_up {j : Int} {c : List Int} (h : c.Pairwise (· < ·)) : (flip1 j c).Pairwise (· < ·) := by
  unfold flip1
  split
  · exact h.sublist List.filter_sublist
  · rename_i hj
    refine lt_of_le (srt_up _) ((srt_perm _).nodup_iff.mpr ?_)
    rw [List.nodup_append]
    exact ⟨lt_nodup h, by simp, fun a ha b hb => by rw [List.mem_singleton.mp hb]; intro e; subst e; exact hj ha⟩
theorem up_eq {a b : List Int} (ha : a.Pairwise (· < ·)) (hb : b.Pairwise (· < ·)) (h : ∀ x, x ∈ a ↔ x ∈ b) : a = b :=
  up_unique ((List.perm_ext_iff_of_nodup (lt_nodup ha) (lt_nodup hb)).mpr h) (ha.imp fun h => by omega) (hb.imp fun h => by omega)
theorem flip1_twice {j : Int} {c : List Int} (h : c.Pairwise (· < ·)) : flip1 j (flip1 j c) = c := by
  refine up_eq (flip1_up (flip1_up h)) h fun x => ?_
  rw [flip1_mem, flip1_mem, flip1_mem]
  by_cases hx : x = j
  · subst hx
    by_cases hc : x ∈ c <;> simp [hc]
  · simp [hx]
theorem flip1_len {j : Int} {c : List Int} (h : c.Pairwise (· < ·)) : (flip1 j c).length = c.length + 1 ∨ (flip1 j c).length + 1 = c.length := by
  unfold flip1
  split
  · rename_i hj
    refine .inr ?_
    have e : c.filter (fun x => decide (x ≠ j)) = c.erase j := by
      rw [(lt_nodup h).erase_eq_filter]
      refine List.filter_congr fun x _ => ?_
      simp [bne]
      rfl
    rw [e, List.length_erase_of_mem hj]
    have := List.length_pos_of_mem hj
    omega
  · refine .inl ?_
    rw [len_srt, List.length_append, List.length_singleton]
theorem partL_some {r : List Heap1} {p q : Heap1 × Heap1} (hp : PairP r p) (e : partL r p = some q) : PairP r q ∧ partL r q = some p ∧ q.1 = p.1 ∧ (q.2.length = p.2.length + 1 ∨ q.2.length + 1 = p.2.length) := by
  unfold partL at e
  cases hf : firstN r p.1 with
  | none => rw [hf] at e; cases e
  | some j =>
    rw [hf] at e
    cases e
    obtain ⟨hj, hl⟩ := first_lies hf
    refine ⟨⟨flip1_up hp.up, fun n hn => ?_, fun n hn => ?_⟩, ?_, rfl, flip1_len hp.up⟩
    · rcases flip1_mem.mp hn with ⟨rfl, _⟩ | ⟨_, hn⟩
      · omega
      · exact hp.at' n hn
    · rcases flip1_mem.mp hn with ⟨rfl, _⟩ | ⟨_, hn⟩
      · exact hl
      · exact hp.lies n hn
    · unfold partL
      show (firstN r p.1).map _ = _
      rw [hf]
      show some (p.1, flip1 (j : Int) (flip1 (j : Int) p.2)) = some p
      rw [flip1_twice hp.up]
end Dt

/-! # Dt: places of two rules side by side, crossing -/
namespace Dt
open PySem PySem.Spec PyProof.Rows L2
def putH (a b : Heap1) : Heap1 := (srt (a ++ b)).reverse
/-- side, heap, choice -/
abbrev Pl := Int × Heap1 × List Int
def ownR (r s : List Heap1) (i : Int) : List Heap1 := if i = 1 then r else s
def othR (r s : List Heap1) (i : Int) : List Heap1 := if i = 1 then s else r
def crossP (r s : List Heap1) (p : Pl) : Pl := (3 - p.1, putH (joinL (pickC (othR r s p.1) p.2.2)) (takeOff (joinL (pickC (ownR r s p.1) p.2.2)) p.2.1), p.2.2)
structure PlP (r s : List Heap1) (p : Pl) : Prop where
  side : p.1 = 1 ∨ p.1 = 2
  pair : PairP (ownR r s p.1) (p.2.1, p.2.2)
theorem putH_perm (a b : Heap1) : (putH a b).Perm (a ++ b) := (List.reverse_perm _).trans (srt_perm _)
theorem putH_down (a b : Heap1) : (putH a b).Pairwise (· ≥ ·) := down_srtR _
theorem putH_eq {a b h : Heap1} (p : h.Perm (a ++ b)) (d : h.Pairwise (· ≥ ·)) : putH a b = h := by
  have e : h.reverse = srt (a ++ b) := srt_eq ((List.reverse_perm _).trans p) (List.pairwise_reverse.mpr (d.imp fun z => z))
  unfold putH
  rw [← e, List.reverse_reverse]
theorem putH_heap {a b : Heap1} (ha : ∀ x ∈ a, 1 ≤ x) (hb : ∀ x ∈ b, 1 ≤ x) : isHeap (putH a b) := ⟨putH_down a b, fun x hx => by
  rcases List.mem_append.mp ((putH_perm a b).mem_iff.mp hx) with h | h
  · exact ha x h
  · exact hb x h⟩
theorem sum_perm {a b : Heap1} (p : a.Perm b) : a.sum = b.sum := perm_sum p
section
variable {r s : List Heap1} {p : Pl} {h : Heap1} {c : List Int}
theorem pair_join (P : PairP r (h, c)) : ∀ x, (joinL (pickC r c)).count x ≤ h.count x := fun x => by
  rw [joinL_count]
  refine mxC_le fun g hg => ?_
  obtain ⟨j, hj, rfl⟩ := List.mem_map.mp hg
  exact liesIn_iff.mp (P.lies j hj) x
theorem join_pair (up : c.Pairwise (· < ·)) (hc : okC r.length c) (hl : ∀ x, (joinL (pickC r c)).count x ≤ h.count x) : PairP r (h, c) :=
  ⟨up, hc, fun j hj => liesIn_iff.mpr fun x => Nat.le_trans (by
    rw [joinL_count]
    exact mxC_ge (r := pickC r c) (List.mem_map.mpr ⟨j, hj, rfl⟩ : r.getD j.toNat [] ∈ pickC r c) x) (hl x)⟩
theorem crossP_side (P : PlP r s p) : (crossP r s p).1 = 1 ∨ (crossP r s p).1 = 2 := by
  show 3 - p.1 = 1 ∨ 3 - p.1 = 2
  rcases P.side with h | h <;> rw [h] <;> decide
theorem own_cross (P : PlP r s p) : ownR r s (3 - p.1) = othR r s p.1 ∧ othR r s (3 - p.1) = ownR r s p.1 := by
  unfold ownR othR
  rcases P.side with h | h <;> rw [h] <;> exact ⟨rfl, rfl⟩
theorem oth_len {n : Nat} (M : Mates n r s) : (othR r s p.1).length = (ownR r s p.1).length := by
  unfold ownR othR
  have := M.len
  split <;> omega
theorem own_any {n : Nat} (M : Mates n r s) (i : Int) : Mates n (ownR r s i) (othR r s i) := by
  unfold ownR othR
  split
  · exact M
  · exact M.symm
theorem cross_place {n : Nat} (M : Mates n r s) (P : PlP r s p) : PlP r s (crossP r s p) := by
  refine ⟨crossP_side P, ?_⟩
  show PairP (ownR r s (3 - p.1)) (putH (joinL (pickC (othR r s p.1) p.2.2)) (takeOff (joinL (pickC (ownR r s p.1) p.2.2)) p.2.1), p.2.2)
  rw [(own_cross P).1]
  refine join_pair P.pair.up (fun j hj => ?_) fun x => ?_
  · rw [oth_len M]; exact P.pair.at' j hj
  · rw [(putH_perm _ _).count_eq, List.count_append]; omega
theorem take_back (a b : Heap1) : (takeOff a (putH a b)).Perm b := by
  have h1 := takeOff_perm a (putH a b) fun x => by rw [(putH_perm _ _).count_eq, List.count_append]; omega
  exact (List.perm_append_left_iff a).mp (h1.symm.trans (putH_perm a b))
theorem cross_twice {n : Nat} (M : Mates n r s) (P : PlP r s p) (hh : isHeap p.2.1) : crossP r s (crossP r s p) = p := by
  obtain ⟨i, h, c⟩ := p
  have e1 := (own_cross P).1
  have e2 := (own_cross P).2
  have e3 : takeOff (joinL (pickC (othR r s i) c)) (putH (joinL (pickC (othR r s i) c)) (takeOff (joinL (pickC (ownR r s i) c)) h)) |>.Perm (takeOff (joinL (pickC (ownR r s i) c)) h) := take_back _ _
  have hj := pair_join P.pair
  have hp := takeOff_perm _ _ hj
  have e4 : putH (joinL (pickC (ownR r s i) c)) (takeOff (joinL (pickC (othR r s i) c)) (putH (joinL (pickC (othR r s i) c)) (takeOff (joinL (pickC (ownR r s i) c)) h))) = h :=
    putH_eq (hp.trans (e3.symm.append_left _)) hh.1
  show ((3 - (3 - i), putH (joinL (pickC (othR r s (3 - i)) c)) (takeOff (joinL (pickC (ownR r s (3 - i)) c)) (putH (joinL (pickC (othR r s i) c)) (takeOff (joinL (pickC (ownR r s i) c)) h))), c) : Pl) = (i, h, c)
  rw [show ownR r s (3 - i) = othR r s i from e1, show othR r s (3 - i) = ownR r s i from e2, e4, show 3 - (3 - i) = i by omega]
theorem cross_sum {n : Nat} (M : Mates n r s) (P : PlP r s p) : (crossP r s p).2.1.sum = p.2.1.sum := by
  obtain ⟨i, h, c⟩ := p
  show (putH (joinL (pickC (othR r s i) c)) (takeOff (joinL (pickC (ownR r s i) c)) h)).sum = h.sum
  have hp := sum_perm (takeOff_perm _ _ (pair_join P.pair))
  have e := (own_any M i).same c (fun j hj => P.pair.at' j hj)
  unfold jS at e
  rw [sum_perm (putH_perm _ _), List.sum_append]
  rw [List.sum_append] at hp
  have hp : h.sum = (joinL (pickC (ownR r s i) c)).sum + (takeOff (joinL (pickC (ownR r s i) c)) h).sum := hp
  omega
theorem pick_pos {n : Nat} (M : Mates n r s) (hc : okC r.length c) : ∀ x ∈ joinL (pickC r c), 1 ≤ x := joinL_pos fun g hg x hx => (M.h1 g (pickC_mem hc g hg)).1.2 x hx
theorem cross_heap {n : Nat} (M : Mates n r s) (P : PlP r s p) (hh : isHeap p.2.1) : isHeap (crossP r s p).2.1 :=
  putH_heap (pick_pos (own_any M p.1).symm fun j hj => by
    have := P.pair.at' j hj
    have := oth_len (p := p) M
    omega) fun x hx => hh.2 x ((takeOff_sub _ _).subset hx)
end
end Dt

/-! # Dt: places of two rules side by side, toggling -/
namespace Dt
open PySem PySem.Spec PyProof.Rows L2
def togP (r s : List Heap1) (p : Pl) : Option Pl := (partL (ownR r s p.1) (p.2.1, p.2.2)).map fun q => (p.1, q.1, q.2)
section
variable {r s : List Heap1} {p q : Pl}
theorem tog_some (P : PlP r s p) (e : togP r s p = some q) : PlP r s q ∧ togP r s q = some p ∧ q.2.1 = p.2.1 ∧ q.1 = p.1 ∧ (q.2.2.length = p.2.2.length + 1 ∨ q.2.2.length + 1 = p.2.2.length) := by
  obtain ⟨i, h, c⟩ := p
  unfold togP at e
  cases hf : partL (ownR r s i) (h, c) with
  | none => rw [show partL (ownR r s (i, h, c).1) ((i, h, c).2.1, (i, h, c).2.2) = none from hf] at e; cases e
  | some z =>
    rw [show partL (ownR r s (i, h, c).1) ((i, h, c).2.1, (i, h, c).2.2) = some z from hf] at e
    cases e
    obtain ⟨h1, h2, h3, h4⟩ := partL_some P.pair hf
    obtain ⟨h', c'⟩ := z
    refine ⟨⟨P.side, h1⟩, ?_, h3, rfl, h4⟩
    show (partL (ownR r s i) (h', c')).map _ = _
    rw [h2]
    rfl
theorem tog_none_iff : togP r s p = none ↔ firstN (ownR r s p.1) p.2.1 = none := by
  unfold togP partL
  cases firstN (ownR r s p.1) p.2.1 <;> simp
end
end Dt

/-! # Dt: the walk between two rules side by side ends -/
namespace Dt
open PySem PySem.Spec PyProof.Rows L2
section
variable {r s : List Heap1} {p q : Pl}
/-- what holds all along the walk -/
structure Wk (r s : List Heap1) (n : Int) (p : Pl) : Prop where
  pl : PlP r s p
  heap : isHeap p.2.1
  sum : p.2.1.sum = n
  odd : (p.1 + (p.2.2.length : Int)) % 2 = 1
theorem Wk.cross {n : Int} {N : Nat} (M : Mates N r s) (w : Wk r s n p) : PlP r s (crossP r s p) ∧ isHeap (crossP r s p).2.1 ∧ (crossP r s p).2.1.sum = n ∧ ((crossP r s p).1 + ((crossP r s p).2.2.length : Int)) % 2 = 0 :=
  ⟨cross_place M w.pl, cross_heap M w.pl w.heap, (cross_sum M w.pl).trans w.sum, by
    show (3 - p.1 + (p.2.2.length : Int)) % 2 = 0
    have := w.odd
    omega⟩
theorem Wk.next {n : Int} {N : Nat} (M : Mates N r s) (w : Wk r s n p) (e : togP r s (crossP r s p) = some q) : Wk r s n q := by
  obtain ⟨h1, h2, h3, h4⟩ := w.cross M
  obtain ⟨g1, g2, g3, g4, g5⟩ := tog_some h1 e
  exact ⟨g1, by rw [g3]; exact h2, by rw [g3]; exact h3, by rw [g4]; omega⟩
/-- all places of a sum -/
def allPl (n m : Nat) : List Pl := [(1 : Int), 2].flatMap fun i => (pts (n + 1) n n).flatMap fun h => (choicesL m).map fun c => (i, h, c)
theorem sum_ge : ∀ {h : Heap1}, (∀ x ∈ h, 1 ≤ x) → 0 ≤ h.sum ∧ ∀ x ∈ h, x ≤ h.sum
  | [], _ => by simp
  | y :: h, hp => by
    obtain ⟨h1, h2⟩ := sum_ge (h := h) fun x hx => hp x (by simp [hx])
    have hy := hp y (by simp)
    rw [List.sum_cons]
    refine ⟨by omega, fun x hx => ?_⟩
    rcases List.mem_cons.mp hx with rfl | hx
    · omega
    · have := h2 x hx; omega
def boundW (n m : Nat) : Nat := (allPl n m).length
/-- behind a crossing: what keeps stands on the second side -/
theorem Wk.stop {n : Int} {N : Nat} (M : Mates N r s) (w : Wk r s n p) (e : togP r s (crossP r s p) = none) : (crossP r s p).1 = 2 ∧ (crossP r s p).2.2 = [] := by
  obtain ⟨h1, h2, h3, h4⟩ := w.cross M
  have hf := tog_none_iff.mp e
  have c0 : (crossP r s p).2.2 = [] := by
    cases hc : (crossP r s p).2.2 with
    | nil => rfl
    | cons j c =>
      have hj : j ∈ (crossP r s p).2.2 := by rw [hc]; simp
      have l := h1.pair.lies j hj
      have a := h1.pair.at' j hj
      have := List.findIdx?_eq_none_iff.mp hf ((ownR r s (crossP r s p).1).getD j.toNat []) (by
        rw [List.getD_eq_getElem?_getD, List.getElem?_eq_getElem (by omega : j.toNat < (ownR r s (crossP r s p).1).length)]
        exact List.getElem_mem _)
      have l : liesIn ((ownR r s (crossP r s p).1).getD j.toNat []) (crossP r s p).2.1 = true := l
      rw [l] at this
      cases this
  rw [c0] at h4
  refine ⟨?_, c0⟩
  rcases h1.side with h | h
  · rw [h] at h4; simp at h4
  · exact h
end
/-- the walk's end, with fuel -/
def endW (r s : List Heap1) : Nat → Pl → Pl
  | 0, p => crossP r s p
  | k + 1, p => match togP r s (crossP r s p) with
    | none => crossP r s p
    | some q => endW r s k q
/-- where the walk from a heap that keeps the first rule ends -/
def endP (r s : List Heap1) (h : Heap1) : Pl := endW r s (boundW h.sum.toNat r.length) (1, h, [])
theorem start_wk {r s : List Heap1} {h : Heap1} (hh : isHeap h) : Wk r s (h.sum.toNat : Int) (1, h, []) :=
  ⟨⟨.inl rfl, List.Pairwise.nil, by simp, by simp⟩, hh, by have := (sum_ge hh.2).1; show h.sum = _; omega, rfl⟩
theorem start_none {r s : List Heap1} {h : Heap1} (e : firstN r h = none) : togP r s (1, h, []) = none := tog_none_iff.mpr e
/-! ### the rows of a walk -/
def stepR (r s : List Heap1) (i : Nat) (p : Pl) : Option Pl := if i % 2 = 1 then some (crossP r s p) else togP r s p
def rowsL (r s : List Heap1) : Nat → Nat → Pl → List Pl
  | 0, _, p => [p]
  | f + 1, i, p => p :: (match stepR r s i p with
    | none => []
    | some q => rowsL r s f (i + 1) q)
termination_by f => f
end Dt

/-! # Dt: the walk leads back -/
namespace Dt
open PySem PySem.Spec PyProof.Rows L2
section
variable {r s : List Heap1} {p q : Pl}
/-- the other way about -/
def mir (p : Pl) : Pl := (3 - p.1, p.2.1, p.2.2)
theorem own_mir (h : p.1 = 1 ∨ p.1 = 2) : ownR s r (3 - p.1) = ownR r s p.1 ∧ othR s r (3 - p.1) = othR r s p.1 := by
  unfold ownR othR
  rcases h with h | h <;> rw [h] <;> exact ⟨rfl, rfl⟩
theorem cross_mir (h : p.1 = 1 ∨ p.1 = 2) : crossP s r (mir p) = mir (crossP r s p) := by
  obtain ⟨i, g, c⟩ := p
  obtain ⟨e1, e2⟩ := own_mir (r := r) (s := s) h
  show ((3 - (3 - i), putH (joinL (pickC (othR s r (3 - i)) c)) (takeOff (joinL (pickC (ownR s r (3 - i)) c)) g), c) : Pl) = (3 - (3 - i), _, c)
  rw [show ownR s r (3 - i) = ownR r s i from e1, show othR s r (3 - i) = othR r s i from e2]
  rfl
theorem tog_mir (h : p.1 = 1 ∨ p.1 = 2) : togP s r (mir p) = (togP r s p).map mir := by
  obtain ⟨i, g, c⟩ := p
  obtain ⟨e1, e2⟩ := own_mir (r := r) (s := s) h
  show (partL (ownR s r (3 - i)) (g, c)).map _ = ((partL (ownR r s i) (g, c)).map _).map _
  rw [show ownR s r (3 - i) = ownR r s i from e1]
  cases partL (ownR r s i) (g, c) <;> rfl
end
end Dt

/-! # Dt: the rows of a whole walk -/
namespace Dt
open PySem PySem.Spec PyProof.Rows L2
section
variable {r s : List Heap1} {p q : Pl} {n : Int} {N i : Nat}
/-- at the i-th place of a walk -/
def AtW (r s : List Heap1) (n : Int) (i : Nat) (p : Pl) : Prop := (i % 2 = 1 ∧ Wk r s n p) ∨ (i % 2 = 0 ∧ ∃ q, Wk r s n q ∧ p = crossP r s q)
theorem AtW.next (M : Mates N r s) (w : AtW r s n i p) (e : stepR r s i p = some q) : AtW r s n (i + 1) q := by
  rcases w with ⟨hi, w⟩ | ⟨hi, z, w, rfl⟩
  · rw [stepR, if_pos hi] at e
    cases e
    exact .inr ⟨by omega, p, w, rfl⟩
  · rw [stepR, if_neg (by omega)] at e
    exact .inl ⟨by omega, w.next M e⟩
theorem AtW.place (M : Mates N r s) (w : AtW r s n i p) : PlP r s p ∧ isHeap p.2.1 ∧ p.2.1.sum = n := by
  rcases w with ⟨hi, w⟩ | ⟨hi, z, w, rfl⟩
  · exact ⟨w.pl, w.heap, w.sum⟩
  · obtain ⟨a, b, c, d⟩ := w.cross M
    exact ⟨a, b, c⟩
theorem AtW.odd (M : Mates N r s) (w : AtW r s n i p) : (p.1 + (p.2.2.length : Int)) % 2 = (i : Int) % 2 := by
  rcases w with ⟨hi, w⟩ | ⟨hi, z, w, rfl⟩
  · have := w.odd; omega
  · have := (w.cross M).2.2.2; omega
theorem AtW.stop (M : Mates N r s) (w : AtW r s n i p) (e : stepR r s i p = none) : i % 2 = 0 ∧ p.1 = 2 ∧ p.2.2 = [] ∧ togP r s p = none := by
  rcases w with ⟨hi, w⟩ | ⟨hi, z, w, rfl⟩
  · rw [stepR, if_pos hi] at e; cases e
  · rw [stepR, if_neg (by omega)] at e
    exact ⟨hi, (w.stop M e).1, (w.stop M e).2, e⟩
/-- places by steps, from the i-th to the end of the walk -/
def FullW (r s : List Heap1) : Nat → List Pl → Prop
  | _, [] => False
  | i, [p] => stepR r s i p = none
  | i, p :: q :: t => stepR r s i p = some q ∧ FullW r s (i + 1) (q :: t)
theorem rowsL_head (r s : List Heap1) : ∀ (f i : Nat) (p : Pl), ∃ t, rowsL r s f i p = p :: t
  | 0, i, p => ⟨[], by rw [rowsL]⟩
  | f + 1, i, p => ⟨_, by rw [rowsL]⟩
theorem rowsL_full : ∀ (t : List Pl) (f i : Nat) (p : Pl), FullW r s i (p :: t) → t.length < f → rowsL r s f i p = p :: t
  | [], f + 1, i, p, h, _ => by
    have h : stepR r s i p = none := h
    rw [rowsL, h]
  | q :: t, f + 1, i, p, h, hl => by
    obtain ⟨h1, h2⟩ : stepR r s i p = some q ∧ FullW r s (i + 1) (q :: t) := h
    rw [rowsL, h1]
    show p :: rowsL r s f (i + 1) q = _
    rw [rowsL_full t f (i + 1) q h2 (by simpa using hl)]
  | _, 0, _, _, _, hl => absurd hl (Nat.not_lt_zero _)
theorem full_of : ∀ (f i : Nat) (p : Pl), (rowsL r s f i p).length ≤ f → FullW r s i (rowsL r s f i p)
  | 0, i, p, h => by simp [rowsL] at h
  | f + 1, i, p, h => by
    rw [rowsL] at h ⊢
    cases e : stepR r s i p with
    | none => exact e
    | some q =>
      rw [e] at h
      have h : (rowsL r s f (i + 1) q).length ≤ f := by simpa using h
      have ih := full_of f (i + 1) q h
      obtain ⟨t, ht⟩ := rowsL_head r s f (i + 1) q
      show FullW r s i (p :: rowsL r s f (i + 1) q)
      rw [ht] at ih ⊢
      exact ⟨e, ih⟩
/-- the same by numbers -/
structure ByN (r s : List Heap1) (i : Nat) (rows : List Pl) : Prop where
  ne : rows ≠ []
  next : ∀ k p q, rows[k]? = some p → rows[k + 1]? = some q → stepR r s (i + k) p = some q
  last : ∀ k p, rows[k]? = some p → rows[k + 1]? = none → stepR r s (i + k) p = none
theorem ByN.of : ∀ {rows : List Pl} {i : Nat}, FullW r s i rows → ByN r s i rows
  | [], _, h => h.elim
  | [p], i, h => ⟨by simp, fun k a b e1 e2 => by simp at e2, fun k a e1 e2 => by
    have hk : k = 0 := by
      cases k with
      | zero => rfl
      | succ k => simp at e1
    subst hk
    simp only [List.getElem?_cons_zero, Option.some.injEq] at e1
    subst e1
    exact h⟩
  | p :: q :: t, i, h => by
    obtain ⟨h1, h2⟩ : stepR r s i p = some q ∧ FullW r s (i + 1) (q :: t) := h
    have ih := ByN.of h2
    refine ⟨by simp, fun k a b e1 e2 => ?_, fun k a e1 e2 => ?_⟩
    · cases k with
      | zero =>
        simp only [List.getElem?_cons_zero, Option.some.injEq, List.getElem?_cons_succ, Nat.zero_add] at e1 e2
        subst e1 e2
        exact h1
      | succ k =>
        have := ih.next k a b (by simpa using e1) (by simpa using e2)
        rw [show i + (k + 1) = i + 1 + k by omega]
        exact this
    · cases k with
      | zero => simp at e2
      | succ k =>
        have := ih.last k a (by simpa using e1) (by simpa using e2)
        rw [show i + (k + 1) = i + 1 + k by omega]
        exact this
theorem ByN.full : ∀ {rows : List Pl} {i : Nat}, ByN r s i rows → FullW r s i rows
  | [], _, h => h.ne rfl
  | [p], i, h => h.last 0 p rfl rfl
  | p :: q :: t, i, h => ⟨h.next 0 p q rfl rfl, ByN.full ⟨by simp, fun k a b e1 e2 => by
      have := h.next (k + 1) a b (by simpa using e1) (by simpa using e2)
      rw [show i + 1 + k = i + (k + 1) by omega]
      exact this, fun k a e1 e2 => by
      have := h.last (k + 1) a (by simpa using e1) (by simpa using e2)
      rw [show i + 1 + k = i + (k + 1) by omega]
      exact this⟩⟩
theorem ByN.at' (M : Mates N r s) {rows : List Pl} (h : ByN r s i rows) (h0 : ∀ p, rows[0]? = some p → AtW r s n i p) : ∀ (k : Nat) (p : Pl), rows[k]? = some p → AtW r s n (i + k) p
  | 0, p, e => h0 p e
  | k + 1, p, e => by
    have hk : k < rows.length := by have := (List.getElem?_eq_some_iff.mp e).1; omega
    have e1 : rows[k]? = some rows[k] := List.getElem?_eq_getElem hk
    exact (ByN.at' M h h0 k _ e1).next M (h.next k _ _ e1 e)
/-- a whole walk from a heap that keeps the first rule -/
structure WholeW (r s : List Heap1) (h : Heap1) (rows : List Pl) : Prop where
  by' : ByN r s 1 rows
  first : rows[0]? = some (1, h, [])
  heap : isHeap h
  keep : firstN r h = none
theorem WholeW.of {h : Heap1} {f : Nat} (hh : isHeap h) (hf : firstN r h = none) (hl : (rowsL r s f 1 (1, h, [])).length ≤ f) : WholeW r s h (rowsL r s f 1 (1, h, [])) := by
  refine ⟨ByN.of (full_of f 1 _ hl), ?_, hh, hf⟩
  obtain ⟨t, ht⟩ := rowsL_head r s f 1 (1, h, [])
  rw [ht]; rfl
theorem WholeW.rows {h : Heap1} {f : Nat} {rows : List Pl} (w : WholeW r s h rows) (hl : rows.length ≤ f) : rowsL r s f 1 (1, h, []) = rows := by
  cases rows with
  | nil => exact absurd rfl w.by'.ne
  | cons p t =>
    have e := w.first
    simp only [List.getElem?_cons_zero, Option.some.injEq] at e
    subst e
    exact rowsL_full t f 1 _ w.by'.full (by simp at hl; omega)
theorem WholeW.at' {h : Heap1} {rows : List Pl} (M : Mates N r s) (w : WholeW r s h rows) (k : Nat) (p : Pl) (e : rows[k]? = some p) : AtW r s h.sum (1 + k) p :=
  w.by'.at' M (fun p e => by
    rw [w.first] at e
    cases e
    have := start_wk (r := r) (s := s) w.heap
    rw [show ((h.sum.toNat : Nat) : Int) = h.sum by have := (sum_ge w.heap.2).1; omega] at this
    exact .inl ⟨rfl, this⟩) k p e
theorem WholeW.len0 {h : Heap1} {rows : List Pl} (w : WholeW r s h rows) : 0 < rows.length := List.length_pos_iff.mpr w.by'.ne
theorem WholeW.get {h : Heap1} {rows : List Pl} (w : WholeW r s h rows) {k : Nat} (hk : k < rows.length) : rows[k]? = some rows[k] := List.getElem?_eq_getElem hk
/-- the last place -/
theorem WholeW.end' {h : Heap1} {rows : List Pl} (M : Mates N r s) (w : WholeW r s h rows) : rows.length % 2 = 0 ∧ ∃ g, rows[rows.length - 1]? = some (2, g, []) ∧ isHeap g ∧ g.sum = h.sum ∧ firstN s g = none := by
  have l0 := w.len0
  have e : rows[rows.length - 1]? = some (rows[rows.length - 1]'(by omega)) := List.getElem?_eq_getElem (by omega)
  have a := w.at' M _ _ e
  have l := w.by'.last _ _ e (by rw [List.getElem?_eq_none_iff]; omega)
  obtain ⟨s1, s2, s3, s4⟩ := a.stop M l
  obtain ⟨a1, a2, a3⟩ := a.place M
  refine ⟨by omega, (rows[rows.length - 1]'(by omega)).2.1, ?_, a2, a3, ?_⟩
  · rw [e]
    exact congrArg some (Prod.ext s2 (Prod.ext rfl s3))
  · have := tog_none_iff.mp s4
    rw [s2] at this
    exact this
/-- the sides go by twos -/
theorem WholeW.side {h : Heap1} {rows : List Pl} (M : Mates N r s) (w : WholeW r s h rows) : ∀ (k : Nat) (p : Pl), rows[k]? = some p → p.1 = if (1 + k) / 2 % 2 = 0 then 1 else 2
  | 0, p, e => by
    rw [w.first] at e
    cases e
    rfl
  | k + 1, p, e => by
    have hk : k < rows.length := by have := (List.getElem?_eq_some_iff.mp e).1; omega
    have e1 := w.get hk
    have n := w.by'.next k _ p e1 e
    have ih := w.side M k _ e1
    have a := w.at' M k _ e1
    by_cases hp : (1 + k) % 2 = 1
    · rw [stepR, if_pos hp] at n
      cases n
      show 3 - (rows[k]).1 = _
      rw [ih]
      by_cases h2 : (1 + k) / 2 % 2 = 0
      · rw [if_pos h2, if_neg (by omega)]; rfl
      · rw [if_neg h2, if_pos (by omega)]; rfl
    · rw [stepR, if_neg hp] at n
      rw [(tog_some (a.place M).1 n).2.2.2.1, ih]
      by_cases h2 : (1 + k) / 2 % 2 = 0
      · rw [if_pos h2, if_pos (by omega)]
      · rw [if_neg h2, if_neg (by omega)]
/-- the walk of the back -/
theorem WholeW.back {h : Heap1} {rows : List Pl} (M : Mates N r s) (w : WholeW r s h rows) : ∃ g, rows[rows.length - 1]? = some (2, g, []) ∧ WholeW s r g (rows.reverse.map mir) := by
  obtain ⟨h1, g, e, g1, g2, g3⟩ := w.end' M
  have l0 := w.len0
  have at' : ∀ (k : Nat) (p : Pl), (rows.reverse.map mir)[k]? = some p → k < rows.length ∧ ∃ q, rows[rows.length - 1 - k]? = some q ∧ p = mir q := fun k p ek => by
    rw [List.getElem?_map, Option.map_eq_some_iff] at ek
    obtain ⟨q, e1, rfl⟩ := ek
    have hk : k < rows.length := by have := (List.getElem?_eq_some_iff.mp e1).1; rw [List.length_reverse] at this; exact this
    rw [List.getElem?_reverse hk] at e1
    exact ⟨hk, q, e1, rfl⟩
  refine ⟨g, e, ⟨by simp; exact List.length_pos_iff.mp l0, fun k p q ek1 ek2 => ?_, fun k p ek1 ek2 => ?_⟩, ?_, g1, g3⟩
  · obtain ⟨k1, p', e1, rfl⟩ := at' k p ek1
    obtain ⟨k2, q', e2, rfl⟩ := at' (k + 1) q ek2
    have n := w.by'.next (rows.length - 1 - (k + 1)) q' p' e2 (by rw [show rows.length - 1 - (k + 1) + 1 = rows.length - 1 - k by omega]; exact e1)
    have a := w.at' M _ _ e1
    have b := w.at' M _ _ e2
    have sd := (a.place M).1.side
    by_cases hp : (1 + k) % 2 = 1
    · rw [stepR, if_pos (by omega)] at n
      have n := Option.some.inj n
      rw [stepR, if_pos hp, cross_mir sd, ← n, cross_twice M (b.place M).1 (b.place M).2.1]
    · rw [stepR, if_neg (by omega)] at n
      rw [stepR, if_neg hp, tog_mir sd, (tog_some (b.place M).1 n).2.1]
      rfl
  · obtain ⟨k1, p', e1, rfl⟩ := at' k p ek1
    have hk : k + 1 = rows.length := by
      rw [List.getElem?_eq_none_iff, List.length_map, List.length_reverse] at ek2
      omega
    rw [show rows.length - 1 - k = 0 by omega, w.first] at e1
    cases e1
    rw [stepR, if_neg (by omega), tog_mir (.inl rfl), start_none w.keep]
    rfl
  · rw [List.getElem?_map, List.getElem?_reverse l0, show rows.length - 1 - 0 = rows.length - 1 by omega, e]
    rfl
end
end Dt

/-! # Dt: dicts whose keys are tuples (of ints, and of such tuples) -/
namespace Dt
open PySem PySem.Spec PyProof.Rows L2
/-! ### what such a dict holds -/
def valN (kvs : List (NK × D)) (k : NK) : Option D := (kvs.find? fun q => decide (q.1 = k)).map (·.2)
def putN (kvs : List (NK × D)) (k : NK) (d : D) : List (NK × D) := if (kvs.any fun q => decide (q.1 = k)) = true then kvs.map fun q => if q.1 = k then (q.1, d) else q else kvs ++ [(k, d)]
section
variable {p : Pm} {F F' : Lab} {I I' H H' H0 : Hp} {σ : L2.St} {ρ : Rho} {v w : V} {o : O}
theorem KN.val {xs : List (NK × Addr × V)} {kvs : List (NK × D)} (h : KN p I xs kvs) (k : NK) : (∀ d, valN kvs k = some d → ∃ v, valX xs k = some v ∧ Dd p I v d) ∧ (valN kvs k = none → valX xs k = none) := by
  induction h with
  | nil => exact ⟨fun d e => by simp [valN] at e, fun _ => rfl⟩
  | cons r rs ih =>
    rename_i x q xs kvs
    unfold valN valX at ih ⊢
    rw [List.find?_cons, List.find?_cons]
    by_cases e : x.1 = k
    · rw [decide_eq_true e, decide_eq_true (r.1 ▸ e)]
      exact ⟨fun d z => by cases z; exact ⟨_, rfl, r.2.2.2⟩, fun z => by cases z⟩
    · rw [decide_eq_false e, decide_eq_false (r.1 ▸ e)]
      exact ih
theorem KN.any {xs : List (NK × Addr × V)} {kvs : List (NK × D)} (h : KN p I xs kvs) (k : NK) : (xs.any fun x => decide (x.1 = k)) = (kvs.any fun q => decide (q.1 = k)) := by
  induction h with
  | nil => rfl
  | cons r rs ih => rw [List.any_cons, List.any_cons, ih, r.1]
theorem KN.put {xs : List (NK × Addr × V)} {kvs : List (NK × D)} (h : KN p I xs kvs) {k : NK} {b : Addr} {d : D} (hk : NkV I (.ref b) k) (h8 : k.depth ≤ 8) (r : Dd p I v d) : KN p I (putX xs k b v) (putN kvs k d) := by
  unfold putX putN
  rw [h.any k]
  split
  · induction h with
    | nil => exact .nil
    | cons r' rs ih =>
      rename_i e x q xs kvs
      refine .cons ?_ ?_
      · dsimp only
        by_cases e : x.1 = k
        · rw [if_pos e, if_pos (r'.1 ▸ e)]
          exact ⟨r'.1, r'.2.1, r'.2.2.1, r⟩
        · rw [if_neg e, if_neg (r'.1 ▸ e)]
          exact r'
      · have go : ∀ {xs : List (NK × Addr × V)} {kvs : List (NK × D)}, KN p I xs kvs → KN p I (xs.map fun x => if x.1 = k then (x.1, x.2.1, v) else x) (kvs.map fun q => if q.1 = k then (q.1, d) else q) := by
          intro xs kvs h
          induction h with
          | nil => exact .nil
          | cons r' rs ih =>
            rename_i x q xs kvs
            refine .cons ?_ ih
            dsimp only
            by_cases e : x.1 = k
            · rw [if_pos e, if_pos (r'.1 ▸ e)]
              exact ⟨r'.1, r'.2.1, r'.2.2.1, r⟩
            · rw [if_neg e, if_neg (r'.1 ▸ e)]
              exact r'
        exact go rs
  · have app : ∀ {xs : List (NK × Addr × V)} {kvs : List (NK × D)}, KN p I xs kvs → KN p I (xs ++ [(k, b, v)]) (kvs ++ [(k, d)]) := by
      intro xs kvs h
      induction h with
      | nil => exact .cons ⟨rfl, hk, h8, r⟩ .nil
      | cons r' rs ih => exact .cons r' ih
    exact app h
theorem KN.dict {xs : List (NK × Addr × V)} {kvs : List (NK × D)} (h : KN p I xs kvs) (s : Same I H) {a : Addr} (e : H a = some (nkO a xs)) : NkD H a xs := by
  refine ⟨e, fun x hx => ?_⟩
  clear e
  induction h with
  | nil => simp at hx
  | cons r rs ih =>
    rcases List.mem_cons.mp hx with rfl | hx
    · exact ⟨r.2.1.keep fun a o xs h => s a _ h, r.2.2.1⟩
    · exact ih hx
end
end Dt

/-! # Dt: signed pairs cancel -/
namespace Dt
open PySem PySem.Spec PyProof.Rows L2
theorem snoc_cases {α : Type} (xs : List α) : xs = [] ∨ ∃ ys x, xs = ys ++ [x] := by
  rcases List.eq_nil_or_concat xs with h | ⟨ys, x, h⟩
  · exact .inl h
  · exact .inr ⟨ys, x, by simpa using h⟩
end Dt

/-! # Dt: dots of a rule and their weights -/
namespace Dt
open PySem PySem.Spec PyProof.Rows L2
theorem sum_none {α : Type} {f : α → Int} : ∀ {xs : List α}, (∀ x ∈ xs, f x = 0) → (xs.map f).sum = 0
  | [], _ => rfl
  | x :: xs, h => by rw [List.map_cons, List.sum_cons, h x (by simp), sum_none fun y hy => h y (by simp [hy])]; rfl
theorem sum_congr {α : Type} {f g : α → Int} {xs : List α} (h : ∀ x ∈ xs, f x = g x) : (xs.map f).sum = (xs.map g).sum := by rw [List.map_congr_left h]
theorem sum_one {α : Type} [DecidableEq α] {xs : List α} (nd : xs.Nodup) {a : α} (ha : a ∈ xs) (v : Int) : (xs.map fun x => if a = x then v else 0).sum = v := by
  induction xs with
  | nil => simp at ha
  | cons x xs ih =>
    obtain ⟨n1, n2⟩ := List.nodup_cons.mp nd
    rw [List.map_cons, List.sum_cons]
    by_cases e : a = x
    · subst e
      rw [if_pos rfl, sum_none fun y hy => if_neg fun (z : a = y) => n1 (z ▸ hy)]
      omega
    · rw [if_neg e, ih n2 ((List.mem_cons.mp ha).resolve_left e)]
      omega
/-! ### each item with how often it stood so far -/
def posL (p : List Int) : List (Int × Nat) := (List.range p.length).map fun i => (p.getD i 0, (p.take (i + 1)).count (p.getD i 0))
theorem posL_snoc (p : List Int) (x : Int) : posL (p ++ [x]) = posL p ++ [(x, (p ++ [x]).count x)] := by
  unfold posL
  rw [List.length_append, List.length_cons, List.length_nil, Nat.zero_add, List.range_succ, List.map_append]
  congr 1
  · refine List.map_congr_left fun i hi => ?_
    have hi := List.mem_range.mp hi
    have e1 : (p ++ [x]).getD i 0 = p.getD i 0 := by
      rw [List.getD_eq_getElem?_getD, List.getD_eq_getElem?_getD, List.getElem?_append_left hi]
    rw [e1, List.take_append_of_le_length (by omega)]
  · have e1 : (p ++ [x]).getD p.length 0 = x := by simp
    rw [List.map_cons, List.map_nil, e1, List.take_of_length_le (by simp)]
theorem pos_sum (g : Int → Nat → Int) (ds : List Int) (nd : ds.Nodup) : ∀ (n : Nat) (p : List Int), p.length = n → (∀ x ∈ p, x ∈ ds) → ((posL p).map fun q => g q.1 q.2).sum = (ds.map fun x => ((List.range (p.count x)).map fun k => g x (k + 1)).sum).sum
  | 0, p, h, _ => by
    have : p = [] := List.length_eq_zero_iff.mp h
    subst this
    exact (sum_none fun x _ => rfl).symm
  | n + 1, p, h, hd => by
    rcases snoc_cases p with rfl | ⟨p, x, rfl⟩
    · simp at h
    · have ih := pos_sum g ds nd n p (by simpa using h) fun y hy => hd y (by simp [hy])
      rw [posL_snoc, List.map_append, List.sum_append, ih]
      have one := sum_one nd (hd x (by simp)) (g x ((p ++ [x]).count x))
      have cx : (p ++ [x]).count x = p.count x + 1 := by rw [List.count_append]; simp
      have e : (ds.map fun y => ((List.range ((p ++ [x]).count y)).map fun k => g y (k + 1)).sum) = ds.map fun y => ((List.range (p.count y)).map fun k => g y (k + 1)).sum + (if x = y then g x ((p ++ [x]).count x) else 0) := by
        refine List.map_congr_left fun y hy => ?_
        by_cases z : x = y
        · subst z
          rw [if_pos rfl, cx, List.range_succ, List.map_append, List.sum_append]
          simp
        · rw [if_neg z]
          have : (p ++ [x]).count y = p.count y := by rw [List.count_append, List.count_cons_of_ne z]; simp
          rw [this]
          omega
      rw [e]
      have add : ∀ ys : List Int, (ys.map fun y => ((List.range (p.count y)).map fun k => g y (k + 1)).sum + (if x = y then g x ((p ++ [x]).count x) else 0)).sum = (ys.map fun y => ((List.range (p.count y)).map fun k => g y (k + 1)).sum).sum + (ys.map fun y => if x = y then g x ((p ++ [x]).count x) else 0).sum := fun ys => by
        induction ys with
        | nil => rfl
        | cons y ys ih => rw [List.map_cons, List.map_cons, List.map_cons, List.sum_cons, List.sum_cons, List.sum_cons, ih]; omega
      rw [add, one]
      simp
theorem sum_const (c : Int) (n : Nat) : ((List.range n).map fun _ => c).sum = c * n := by
  induction n with
  | zero => simp
  | succ n ih =>
    rw [List.range_succ, List.map_append, List.sum_append, ih]
    simp only [List.map_cons, List.map_nil, List.sum_cons, List.sum_nil, Int.natCast_add, Int.natCast_one, Int.mul_add, Int.mul_one]
    omega
theorem sum_pos (p : List Int) : ((posL p).map fun q => q.1) = p := by
  unfold posL
  rw [List.map_map]
  refine List.ext_getElem (by simp) fun i h1 h2 => ?_
  simp
  rw [List.getElem?_eq_getElem (by simpa using h2)]
  rfl
theorem sum_byC (ds : List Int) (nd : ds.Nodup) {p : List Int} (h : ∀ x ∈ p, x ∈ ds) : p.sum = (ds.map fun x => x * (p.count x : Int)).sum := by
  have := pos_sum (fun x _ => x) ds nd p.length p rfl h
  rw [sum_pos] at this
  rw [this]
  exact sum_congr fun x _ => sum_const x _
/-! ### the dots of a rule -/
section
variable {r : List Heap1} {x : Int} {k : Nat} {c : List Int}
def cnt (r : List Heap1) (i : Nat) (x : Int) : Nat := (r.getD i []).count x
end
end Dt

/-! # Dt: texts -/
namespace Dt
open PySem PySem.Spec PyProof.Rows L2
/-! ### the text of a number -/
def numS (n : Int) : Str := Str.ofString (toString n)
theorem numS_signs {n : Int} (h : 0 ≤ n) : (numS n).cps.toList = (Nat.toDigits 10 n.toNat).map Char.toNat := by
  obtain ⟨m, rfl⟩ := Int.eq_ofNat_of_zero_le h
  exact PySem.W.KIN.signs_num m
theorem numS_digit {n : Int} (h : 0 ≤ n) : ∀ c ∈ (numS n).cps.toList, 48 ≤ c ∧ c ≤ 57 := by
  intro c hc
  rw [numS_signs h] at hc
  obtain ⟨ch, hch, e⟩ := List.mem_map.mp hc
  rw [← e]
  exact digit_range (Nat.isDigit_of_mem_toDigits (by decide) (by decide) hch)
theorem numS_len {n : Int} {k : Nat} (hk : 1 ≤ k) (h0 : 0 ≤ n) (h : n < 10 ^ k) : (numS n).length ≤ k := by
  show (numS n).cps.size ≤ k
  rw [← Array.length_toList, numS_signs h0, List.length_map]
  refine toDigits_len_pow (by decide) hk ?_
  have : ((n.toNat : Nat) : Int) < ((10 ^ k : Nat) : Int) := by
    rw [Int.toNat_of_nonneg h0]
    exact_mod_cast h
  exact_mod_cast this
/-! ### split undoes join -/
def gluL (c : Nat) : List (List Nat) → List Nat
  | [] => []
  | [x] => x
  | x :: y :: r => x ++ c :: gluL c (y :: r)
theorem glu_join (c : Nat) : ∀ ys : List Str, (Txt.join ⟨#[c]⟩ ys).cps.toList = gluL c (ys.map (·.cps.toList))
  | [] => rfl
  | [x] => rfl
  | x :: y :: r => by
    have ih := glu_join c (y :: r)
    rw [show Txt.join ⟨#[c]⟩ (x :: y :: r) = x ++ ⟨#[c]⟩ ++ Str.join ⟨#[c]⟩ (y :: r) from StrLaws.glued_eq_join _ _]
    show ((x.cps ++ #[c]) ++ (Str.join ⟨#[c]⟩ (y :: r)).cps).toList = _
    rw [Array.toList_append, Array.toList_append]
    rw [show Txt.join ⟨#[c]⟩ (y :: r) = Str.join ⟨#[c]⟩ (y :: r) from StrLaws.glued_eq_join _ _] at ih
    rw [ih]
    simp [gluL]
/-! ### reading a part, a heap -/
open PySem.NumText in
def valW (w : Str) : Int := ((digitsVal w.cps.toList : Nat) : Int)
def digB (c : Nat) : Bool := decide (48 ≤ c) && decide (c ≤ 57)
def okW (w : Str) : Bool := !decide (w = "") && !decide (w.cps.toList.head? = some 48) && decide (w.length ≤ 60) && w.cps.toList.all digB
theorem strOk_iff {a : Str} : PyData.strOk a = true ↔ ∀ c ∈ a.cps.toList, c < 0x110000 := by
  unfold PyData.strOk
  rw [← Array.all_toList, List.all_eq_true]
  simp
theorem strOk_sign {c : Nat} (h : c < 0x110000) : PyData.strOk ⟨#[c]⟩ = true := strOk_iff.mpr fun d hd => by
  have : d = c := by simpa using hd
  omega
def downB (xs : List Int) : Bool := (xs.zip (xs.drop 1)).all fun p => !decide (p.1 < p.2)
def readW (t : Str) : Option (List Int) := if t = "none" then some [] else
  if 60 < (Txt.split t " ").length then none else if ((Txt.split t " ").all okW && downB ((Txt.split t " ").map valW)) = true then some ((Txt.split t " ").map valW) else none
def heapS (h : Heap1) : Str := if h = [] then "none" else Txt.join " " (h.map numS)
theorem glu_from {c d : Nat} : ∀ {xs : List (List Nat)}, d ∈ gluL c xs → d = c ∨ ∃ x ∈ xs, d ∈ x
  | [], h => by simp [gluL] at h
  | [x], h => .inr ⟨x, by simp, h⟩
  | x :: y :: r, h => by
    have h : d ∈ x ++ c :: gluL c (y :: r) := h
    rcases List.mem_append.mp h with h | h
    · exact .inr ⟨x, by simp, h⟩
    · rcases List.mem_cons.mp h with h | h
      · exact .inl h
      · rcases glu_from h with h | ⟨z, h1, h2⟩
        · exact .inl h
        · exact .inr ⟨z, List.mem_cons_of_mem _ h1, h2⟩
theorem join_sp (ys : List Str) : (Txt.join " " ys).cps.toList = gluL 32 (ys.map (·.cps.toList)) := glu_join 32 ys
theorem heapS_ok {h : Heap1} (hx : ∀ x ∈ h, 0 ≤ x ∧ x < 10 ^ 60) : PyData.strOk (heapS h) = true := by
  unfold heapS
  split
  · decide +kernel
  · refine strOk_iff.mpr fun d hd => ?_
    rw [join_sp] at hd
    rcases glu_from hd with rfl | ⟨z, hz, hd⟩
    · decide
    · obtain ⟨y, hy, rfl⟩ := List.mem_map.mp hz
      obtain ⟨x, hx', rfl⟩ := List.mem_map.mp hy
      have := numS_digit (hx x hx').1 d hd
      omega
theorem sum_nums {h : Heap1} (hx : ∀ x ∈ h, 0 ≤ x ∧ x < 10 ^ 60) : ((h.map numS).map (·.length)).sum + (h.map numS).length * (" " : Str).length ≤ 61 * h.length := by
  have : ∀ g : Heap1, (∀ x ∈ g, 0 ≤ x ∧ x < 10 ^ 60) → ((g.map numS).map (·.length)).sum ≤ 60 * g.length := fun g => by
    induction g with
    | nil => intro _; exact Nat.le_refl _
    | cons x g ih =>
      intro hg
      have h1 := ih fun y hy => hg y (List.mem_cons_of_mem _ hy)
      have h2 := hg x (by simp)
      have h3 := numS_len (k := 60) (by decide) h2.1 h2.2
      simp only [List.map_cons, List.sum_cons, List.length_cons]
      omega
  have h1 := this h hx
  have h2 : (" " : Str).length = 1 := rfl
  rw [h2, List.length_map]
  omega
theorem heapS_len {h : Heap1} (hx : ∀ x ∈ h, 0 ≤ x ∧ x < 10 ^ 60) : (heapS h).length ≤ 61 * h.length + 4 := by
  unfold heapS
  split
  · exact Nat.le_add_left _ _
  · have e : Txt.join " " (h.map numS) = Str.join " " (h.map numS) := StrLaws.glued_eq_join _ _
    rw [e]
    have := StrLaws.join_length_le " " (h.map numS)
    have := sum_nums hx
    omega
end Dt

/-! # Dt: more of texts -/
namespace Dt
open PySem PySem.Spec PyProof.Rows L2
theorem app_list (a b : Str) : (a ++ b).cps.toList = a.cps.toList ++ b.cps.toList := by
  show (a.cps ++ b.cps).toList = _
  rw [Array.toList_append]
theorem len_list (a : Str) : a.length = a.cps.toList.length := by rw [Array.length_toList]; rfl
/-- a text that may be handed about -/
def txB (n : Nat) (a : Str) : Prop := PyData.strOk a = true ∧ a.length ≤ n
theorem tx_app {a b : Str} {n m : Nat} (h : txB n a) (g : txB m b) : txB (n + m) (a ++ b) := by
  refine ⟨strOk_iff.mpr fun c hc => ?_, ?_⟩
  · rw [app_list] at hc
    rcases List.mem_append.mp hc with hc | hc
    · exact strOk_iff.mp h.1 c hc
    · exact strOk_iff.mp g.1 c hc
  · rw [len_list, app_list, List.length_append, ← len_list, ← len_list]
    have := h.2; have := g.2
    omega
theorem tx_le {a : Str} {n m : Nat} (h : txB n a) (l : n ≤ m) : txB m a := ⟨h.1, Nat.le_trans h.2 l⟩
theorem tx_join {ys : List Str} {n m : Nat} {sep : Str} (h : ∀ y ∈ ys, txB n y) (hs : txB m sep) : txB (ys.length * (n + m)) (Txt.join sep ys) := by
  have e : Txt.join sep ys = Str.join sep ys := StrLaws.glued_eq_join _ _
  rw [e]
  clear e
  induction ys with
  | nil =>
    refine ⟨strOk_iff.mpr fun c hc => ?_, Nat.zero_le _⟩
    have hc : c ∈ ([] : List Nat) := hc
    cases hc
  | cons y r ih =>
    have h1 := h y (by simp)
    cases r with
    | nil => exact tx_le h1 (by rw [List.length_cons, List.length_nil]; omega)
    | cons z r =>
      have h2 := ih fun w hw => h w (List.mem_cons_of_mem _ hw)
      have h3 := tx_app (tx_app h1 hs) h2
      exact tx_le h3 (by simp only [List.length_cons]; rw [show (r.length + 1 + 1) * (n + m) = (r.length + 1) * (n + m) + (n + m) by rw [Nat.add_mul (r.length + 1), Nat.one_mul]]; omega)
end Dt

/-! # Dt: rows of dots -/
namespace Dt
open PySem PySem.Spec PyProof.Rows L2
theorem mem_ins {α : Type} {ws : List α} {x w : α} {n : Nat} (h : w ∈ ws.take n ++ [x] ++ ws.drop n) : w = x ∨ w ∈ ws := by
  rcases List.mem_append.mp h with h | h
  · rcases List.mem_append.mp h with h | h
    · exact .inr (List.mem_of_mem_take h)
    · exact .inl (List.mem_singleton.mp h)
  · exact .inr (List.mem_of_mem_drop h)
end Dt

/-! # Dt: texts split by three signs -/
namespace Dt
open PySem PySem.Spec PyProof.Rows L2 PySem.StrLaws
/-! ### rules -/
def readR (t : Str) : Option (List Heap1) := if t = "no heaps" then some [] else
  if 6 < (Txt.split t " | ").length then none else if (Txt.split t " | ").all (fun w => (readW w).isSome) = true then some ((Txt.split t " | ").map fun w => (readW w).getD []) else none
def ruleS (r : List Heap1) : Str := if r = [] then "no heaps" else Txt.join " | " (r.map heapS)
/-- heaps that are written and read -/
structure TxH (h : Heap1) : Prop where
  heap : isHeap h
  len : h.length ≤ 60
  top : ∀ x ∈ h, x < 10 ^ 60
theorem TxH.pos {h : Heap1} (d : TxH h) : ∀ x ∈ h, 0 ≤ x ∧ x < 10 ^ 60 := fun x hx => by have := d.heap.2 x hx; have := d.top x hx; omega
theorem TxH.tx {h : Heap1} (d : TxH h) : txB 4000 (heapS h) := ⟨heapS_ok d.pos, by have := heapS_len d.pos; have := d.len; omega⟩
end Dt

/-! # Dt: dicts of counts -/
namespace Dt
open PySem PySem.Spec PyProof.Rows L2
def vP (ps : List (Int × Int)) (k : Int) : Int := match ps.find? (fun q => decide (q.1 = k)) with
  | some q => q.2
  | none => 0
theorem vP_none {ps : List (Int × Int)} {k : Int} (h : k ∉ ps.map (·.1)) : vP ps k = 0 := by
  have : ps.find? (fun q => decide (q.1 = k)) = none := List.find?_eq_none.mpr fun q hq z => h (List.mem_map.mpr ⟨q, hq, of_decide_eq_true z⟩)
  unfold vP
  rw [this]
theorem vP_mem : ∀ {ps : List (Int × Int)}, (ps.map (·.1)).Nodup → ∀ q ∈ ps, vP ps q.1 = q.2
  | u :: ps, nd, q, h => by
    obtain ⟨n1, n2⟩ := List.nodup_cons.mp nd
    rcases List.mem_cons.mp h with rfl | h
    · simp [vP]
    · have e : ¬ u.1 = q.1 := fun z => n1 (List.mem_map.mpr ⟨q, h, z.symm⟩)
      have ih := vP_mem n2 q h
      have a2 : vP (u :: ps) q.1 = vP ps q.1 := by simp [vP, List.find?_cons, e]
      rw [a2, ih]
/-- how often each part stands in a row -/
structure CntP (h : List Int) (ps : List (Int × Int)) : Prop where
  nd : (ps.map (·.1)).Nodup
  val : ∀ x, vP ps x = (h.count x : Nat)
  mem : ∀ x ∈ ps.map (·.1), x ∈ h
  len : ps.length ≤ h.length
theorem CntP.nil : CntP [] [] := ⟨by simp, fun _ => rfl, by simp, by simp⟩
/-- the most of some rows -/
structure MxP (gs : List (List Int)) (ps : List (Int × Int)) : Prop where
  nd : (ps.map (·.1)).Nodup
  val : ∀ x, vP ps x = (mxC gs x : Nat)
  mem : ∀ x ∈ ps.map (·.1), ∃ g ∈ gs, x ∈ g
  len : ps.length ≤ (gs.map List.length).sum
theorem MxP.nil : MxP [] [] := ⟨by simp, fun _ => rfl, by simp, by simp⟩
theorem MxP.sum {r : List Heap1} {c : List Int} {ps : List (Int × Int)} (M : MxP (pickC r c) ps) : (ps.map fun q => q.1 * q.2).sum = jS r c := by
  unfold jS
  symm
  rw [sum_byC (p := joinL (pickC r c)) (ps.map (·.1)) M.nd fun x hx => ?_]
  · rw [List.map_map]
    refine sum_congr fun q hq => ?_
    show q.1 * (((joinL (pickC r c)).count q.1 : Nat) : Int) = q.1 * q.2
    rw [joinL_count, ← M.val, vP_mem M.nd q hq]
  · obtain ⟨g, hg, hx⟩ := joinL_mem.mp hx
    by_cases h : x ∈ ps.map (·.1)
    · exact h
    · have h1 := M.val x
      rw [vP_none h] at h1
      have h2 := mxC_ge hg x
      have h3 := List.count_pos_iff.mpr hx
      omega
end Dt

/-! # Dt: class Desk -/
namespace Dt
open PySem PySem.Spec PyProof.Rows L2
/-! ### own dicts become data -/
def dcD (kvs : List (Key × D)) : D := .dict ((.none, .none) :: kvs.map fun q => (keyD q.1, q.2))
theorem unkD_map : ∀ kvs : List (Key × D), unkD (kvs.map fun q => (keyD q.1, q.2)) = some kvs
  | [] => rfl
  | (k, d) :: kvs => by
    have e : keyOf (keyD k) = some k := by cases k <;> rfl
    rw [List.map_cons]
    unfold unkD
    rw [e, unkD_map kvs]
end Dt

/-! # Dt: calls that lend several things -/
namespace Dt
open PySem PySem.Spec PyProof.Rows L2
section
variable {p : Pm} {F F' F0 : Lab} {I I' I0 H0 H1 H H' : Hp} {σ : L2.St} {ρ ρ' : Rho} {v : V} {o : O} {d : D} {c c' : C} {W : WX}
inductive LendR (p : Pm) (F : Lab) (I H : Hp) (σ : L2.St) (ρ : Rho) : List V → List Nat → List S → Prop
  | nil {vs : List V} {ds : List D} : DdAll p I vs ds → LendR p F I H σ ρ vs [] (ds.map S.d)
  | cons {j : Nat} {a : Addr} {c : C} {vs : List V} {js : List Nat} {ss : List S} : σ[j]? = some (some (.ref a)) → cst ρ j = some c → Own p F I H (some j) (fun _ => True) a c → j ∉ js → LendR p F I H σ ρ vs js ss → LendR p F I H σ ρ (.ref a :: vs) (j :: js) (.lent a c :: ss)
theorem LendR.len {vs : List V} {js : List Nat} {ss : List S} (L : LendR p F I H σ ρ vs js ss) : ss.length = vs.length := by
  induction L with
  | nil r => rw [List.length_map, r.length]
  | cons _ _ _ _ _ ih => simp [ih]
/-- slot i of the callee -/
theorem LendR.get {vs : List V} {js : List Nat} {ss : List S} (L : LendR p F I H σ ρ vs js ss) : ∀ (i : Nat) (s : S), ss[i]? = some s →
    (∃ j a c, js[i]? = some j ∧ s = .lent a c ∧ vs[i]? = some (.ref a) ∧ σ[j]? = some (some (.ref a)) ∧ cst ρ j = some c ∧ Own p F I H (some j) (fun _ => True) a c) ∨ (js[i]? = none ∧ ∃ d v, s = .d d ∧ vs[i]? = some v ∧ Dd p I v d) := by
  induction L with
  | nil r =>
    intro i s z
    rw [List.getElem?_map, Option.map_eq_some_iff] at z
    obtain ⟨d, z, rfl⟩ := z
    obtain ⟨v, h1, h2⟩ := r.get z
    exact .inr ⟨rfl, d, v, rfl, h1, h2⟩
  | @cons j a c vs js ss e1 e2 e3 e4 _ ih =>
    intro i s z
    cases i with
    | zero => cases z; exact .inl ⟨j, a, c, rfl, rfl, rfl, e1, e2, e3⟩
    | succ i =>
      rcases ih i s (by simpa using z) with ⟨j, a, c, w⟩ | w
      · exact .inl ⟨j, a, c, by simpa using w⟩
      · exact .inr (by simpa using w)
theorem LendR.at {vs : List V} {js : List Nat} {ss : List S} (L : LendR p F I H σ ρ vs js ss) {i j : Nat} (h : js[i]? = some j) : ∃ a c, vs[i]? = some (.ref a) ∧ σ[j]? = some (some (.ref a)) ∧ cst ρ j = some c ∧ Own p F I H (some j) (fun _ => True) a c ∧ ss[i]? = some (.lent a c) := by
  induction L generalizing i with
  | nil _ => simp at h
  | @cons j0 a c vs js ss e1 e2 e3 e4 _ ih =>
    cases i with
    | zero => cases h; exact ⟨a, c, rfl, e1, e2, e3, rfl⟩
    | succ i => simpa using ih (by simpa using h)
end
end Dt

/-! # Dt: f-strings; sorted texts; tables of defs -/
namespace Dt
open PySem PySem.Spec PyProof.Rows L2
/-! ### sorted texts -/
def leS (a b : Str) : Bool := !PySem.W.dataLt (.str b) (.str a)
def srtS (ns : List Str) : List Str := ns.mergeSort leS
theorem srtS_perm (ns : List Str) : (srtS ns).Perm ns := List.mergeSort_perm _ _
end Dt

/-! # Dt: what the desk does, without the program -/
namespace Dt
open PySem PySem.Spec PyProof.Rows L2
abbrev Book := List (Str × List Heap1)
def bGet (b : Book) (n : Str) : Option (List Heap1) := (b.find? fun q => decide (q.1 = n)).map (·.2)
def bPut (b : Book) (n : Str) (r : List Heap1) : Book := if (b.any fun q => decide (q.1 = n)) = true then b.map (fun q => if q.1 = n then (q.1, r) else q) else b ++ [(n, r)]
def bDel (b : Book) (n : Str) : Book := b.filter fun q => decide (q.1 ≠ n)
def bNames (b : Book) : List Str := b.map (·.1)
structure DeskS where
  held : Book
  past : List Book
  ahead : List Book
/-! ### answers -/
abbrev Ans (α : Type) := Except Exn α
def xLine : Exn := ⟨15, []⟩
def xName (n : Str) : Exn := ⟨21, [("name", .str n)]⟩
/-! ### words -/
def lowB (c : Nat) : Bool := decide (97 ≤ c) && decide (c ≤ 122)
def nameB (w : Str) : Bool := !decide (w = "") && decide (w.length ≤ 8) && w.cps.toList.all lowB
def numB (w : Str) : Bool := !decide (w = "") && decide (w.length ≤ 9) && w.cps.toList.all digB && !(decide (w.cps.toList.head? = some 48) && !decide (w = "0"))
def rdName (w : Str) : Ans Str := if nameB w = true then .ok w else .error xLine
def rdNum (w : Str) : Ans Int := if numB w = true then .ok (valW w) else .error xLine
def firstW : List Str → Ans Str
  | [] => .error xLine
  | w :: _ => rdName w
def twoW : List Str → Ans (Str × Str)
  | a :: b :: _ => do
    let x ← rdName a
    let y ← rdName b
    .ok (x, y)
  | _ => .error xLine
def manyW (ws : List Str) (m : Nat) : Ans Unit := if ws.length = m then .ok () else .error xLine
def restH (ws : List Str) : Ans Heap1 := match readW (Txt.join " " ws) with
  | some h => .ok h
  | none => .error xLine
def restR (ws : List Str) : Ans (List Heap1) := match readR (Txt.join " " ws) with
  | some r => .ok r
  | none => .error xLine
def atB (b : Book) (n : Str) : Ans (List Heap1) := match bGet b n with
  | some r => .ok r
  | none => .error (xName n)
def namesF (b : Book) : Str := if b = [] then "no names" else Txt.join " " (srtS (bNames b))
/-! ### deeds -/
def ruleLn (b : Book) (ws : List Str) : Ans (Str × Book) := do
  let n ← firstW ws
  let r ← restR (ws.drop 1)
  .ok (ruleS r, bPut b n r)
def addLn (b : Book) (ws : List Str) : Ans (Str × Book) := do
  let n ← firstW ws
  let h ← restH (ws.drop 1)
  let r ← atB b n
  if r.length = 6 then .error ⟨4, []⟩ else .ok (ruleS (r ++ [h]), bPut b n (r ++ [h]))
def takeLn (b : Book) (ws : List Str) : Ans (Str × Book) := do
  manyW ws 2
  let n ← rdName (ws.getD 0 "")
  let i ← rdNum (ws.getD 1 "")
  let r ← atB b n
  if (r.length : Int) ≤ i then .error ⟨6, []⟩ else .ok (ruleS (r.take i.toNat ++ r.drop (i.toNat + 1)), bPut b n (r.take i.toNat ++ r.drop (i.toNat + 1)))
def copyLn (b : Book) (ws : List Str) : Ans (Str × Book) := do
  manyW ws 2
  let p ← twoW ws
  let r ← atB b p.1
  .ok (ruleS r, bPut b p.2 r)
def dropLn (b : Book) (ws : List Str) : Ans (Str × Book) := do
  manyW ws 1
  let n ← rdName (ws.getD 0 "")
  let _ ← atB b n
  .ok (namesF (bDel b n), bDel b n)
/-! ### what is asked -/
def namesLn (b : Book) (ws : List Str) : Ans Str := do
  manyW ws 0
  .ok (namesF b)
def showLn (b : Book) (ws : List Str) : Ans Str := do
  manyW ws 1
  let n ← rdName (ws.getD 0 "")
  let r ← atB b n
  .ok (ruleS r)
def keepsLn (b : Book) (ws : List Str) : Ans Str := do
  let n ← firstW ws
  let h ← restH (ws.drop 1)
  let r ← atB b n
  match firstN r h with
  | none => .ok "yes"
  | some i => .ok ("no " ++ numS i)
def countLn (b : Book) (ws : List Str) : Ans Str := do
  manyW ws 2
  let n ← rdName (ws.getD 0 "")
  let k ← rdNum (ws.getD 1 "")
  let r ← atB b n
  if 400 < k then .error ⟨5, []⟩ else .ok (numS (keepN r k.toNat))
def listLn (b : Book) (ws : List Str) : Ans Str := do
  manyW ws 2
  let n ← rdName (ws.getD 0 "")
  let k ← rdNum (ws.getD 1 "")
  let r ← atB b n
  if 24 < k then .error ⟨5, []⟩ else if keptL r k.toNat = [] then .ok "no partings" else .ok (Txt.join " | " ((keptL r k.toNat).map heapS))
/-! ### two rules -/
def unlO (r s : List Heap1) : Option (Heap1 × Int × Int) := (choicesL r.length).findSome? fun c => if jS r c = jS s c then none else some (c, jS r c, jS s c)
def matchLn (b : Book) (ws : List Str) : Ans Str := do
  manyW ws 2
  let p ← twoW ws
  let r ← atB b p.1
  let s ← atB b p.2
  if r.length = s.length then match unlO r s with
    | none => .ok "yes"
    | some (c, x, y) => .ok ("no " ++ Txt.join " " (c.map numS) ++ " : " ++ numS x ++ " " ++ numS y)
  else .error ⟨9, []⟩
def sidedF (r s : List Heap1) : Ans Unit := if r.length = s.length then match unlO r s with
    | none => .ok ()
    | some (c, x, y) => .error ⟨19, [("other", .int y), ("one", .int x), ("choice", hD c)]⟩
  else .error ⟨9, []⟩
def endF (r s : List Heap1) (h : Heap1) : Ans Heap1 := if 24 < h.sum then .error ⟨5, []⟩ else match firstN r h with
  | some i => .error ⟨18, [("number", .int i)]⟩
  | none => .ok (endP r s h).2.1
/-- how often a walk steps on from a place -/
def cntW (r s : List Heap1) : Nat → Pl → Nat
  | 0, _ => 0
  | k + 1, p => match togP r s (crossP r s p) with
    | none => 0
    | some q => cntW r s k q + 1
def stepsP (r s : List Heap1) (h : Heap1) : Int := 2 + 2 * (cntW r s (boundW h.sum.toNat r.length) (1, h, []) : Nat)
def sendLn (b : Book) (ws : List Str) : Ans Str := do
  let p ← twoW ws
  let h ← restH (ws.drop 2)
  let r ← atB b p.1
  let s ← atB b p.2
  let _ ← sidedF r s
  let g ← endF r s h
  .ok (heapS g)
def stepsLn (b : Book) (ws : List Str) : Ans Str := do
  let p ← twoW ws
  let h ← restH (ws.drop 2)
  let r ← atB b p.1
  let s ← atB b p.2
  let _ ← sidedF r s
  let _ ← endF r s h
  .ok (numS (stepsP r s h))
/-- two rules that match are mates -/
def SendOk (b : Book) (ws : List Str) : Prop := ∀ p r s, twoW ws = .ok p → atB b p.1 = .ok r → atB b p.2 = .ok s → r.length = s.length → unlO r s = none → Mates 6 r s
/-! ### the desk -/
def splW (line : Str) : List Str := Txt.split line " "
def deedF (w : Str) (b : Book) (ws : List Str) : Option (Ans (Str × Book)) :=
  if w = "rule" then some (ruleLn b ws) else if w = "add" then some (addLn b ws) else if w = "take" then some (takeLn b ws) else if w = "copy" then some (copyLn b ws) else if w = "drop" then some (dropLn b ws) else none
def undoF (D : DeskS) : Ans (Str × DeskS) := match D.past.getLast? with
  | some b => .ok (namesF b, ⟨b, D.past.dropLast, D.ahead ++ [D.held]⟩)
  | none => .error ⟨16, []⟩
def againF (D : DeskS) : Ans (Str × DeskS) := match D.ahead.getLast? with
  | some b => .ok (namesF b, ⟨b, D.past ++ [D.held], D.ahead.dropLast⟩)
  | none => .error ⟨16, []⟩
/-! ### bounds -/
structure OkRl (r : List Heap1) : Prop where
  most : r.length ≤ 6
  tx : ∀ h ∈ r, TxH h
structure OkBk (b : Book) : Prop where
  few : b.length ≤ 200
  rule : ∀ q ∈ b, OkRl q.2
  name : ∀ q ∈ b, nameB q.1 = true
structure OkDk (D : DeskS) : Prop where
  held : OkBk D.held
  past : ∀ b ∈ D.past, OkBk b
  ahead : ∀ b ∈ D.ahead, OkBk b
  lp : D.past.length ≤ 100000
  la : D.ahead.length ≤ 100000
/-- words of a line -/
structure OkWs (ws : List Str) : Prop where
  ok : ∀ w ∈ ws, PyData.strOk w = true
  len : (ws.map (·.length)).sum + ws.length ≤ 100000
theorem OkWs.drop {ws : List Str} (h : OkWs ws) (n : Nat) : OkWs (ws.drop n) := by
  refine ⟨fun w hw => h.ok w (List.mem_of_mem_drop hw), ?_⟩
  have h1 := h.len
  have h2 : ((ws.drop n).map (·.length)).sum ≤ (ws.map (·.length)).sum := by
    have := congrArg (fun l : List Str => (l.map (·.length)).sum) (List.take_append_drop n ws)
    simp only [List.map_append, List.sum_append] at this
    omega
  rw [List.length_drop]
  omega
theorem glu_ln (c : Nat) : ∀ xs : List (List Nat), (gluL c xs).length ≤ (xs.map List.length).sum + xs.length
  | [] => Nat.le_refl _
  | [x] => by simp [gluL]
  | x :: y :: r => by
    have ih := glu_ln c (y :: r)
    have e : gluL c (x :: y :: r) = x ++ c :: gluL c (y :: r) := rfl
    rw [e, List.length_append, List.length_cons, List.map_cons, List.sum_cons, List.length_cons]
    omega
theorem sp_len : (" " : Str).length = 1 := by decide
theorem sp_cps : (" " : Str) = ⟨#[32]⟩ := by decide
theorem sp_ok : PyData.strOk (" " : Str) = true := by rw [sp_cps]; exact strOk_sign (by decide)
theorem join_len (ws : List Str) : (Txt.join " " ws).length ≤ (ws.map (·.length)).sum + ws.length := by
  rw [Dt.len_list, sp_cps, glu_join]
  have h2 := glu_ln 32 (ws.map (·.cps.toList))
  rw [List.map_map, List.length_map] at h2
  have e : (ws.map (List.length ∘ fun x : Str => x.cps.toList)) = ws.map (·.length) := List.map_congr_left fun w _ => (Dt.len_list w).symm
  rw [e] at h2
  omega
theorem low_ok {w : Str} (h : nameB w = true) : txB 8 w := by
  unfold nameB at h
  rw [Bool.and_eq_true, Bool.and_eq_true] at h
  refine ⟨strOk_iff.mpr fun c hc => ?_, of_decide_eq_true h.1.2⟩
  have := List.all_eq_true.mp h.2 c hc
  unfold lowB at this
  rw [Bool.and_eq_true] at this
  have := of_decide_eq_true this.2
  omega
theorem names_size {ns : List Str} (hl : ns.length ≤ 200) (h : ∀ n ∈ ns, txB 8 n) : (ns.map (·.length)).sum + ns.length * (" " : Str).length ≤ 16000000 ∧ txB 2000 (Txt.join " " ns) := by
  have h1 : (ns.map (·.length)).sum ≤ 8 * ns.length := by
    clear hl
    induction ns with
    | nil => exact Nat.le_refl _
    | cons n ns ih =>
      have := ih fun m hm => h m (List.mem_cons_of_mem _ hm)
      have := (h n (by simp)).2
      rw [List.map_cons, List.sum_cons, List.length_cons]
      omega
  have h2 := join_len ns
  have t := tx_join (ys := ns) (n := 8) (m := 1) (sep := (" " : Str)) h ⟨sp_ok, by rw [sp_len]; omega⟩
  exact ⟨by rw [sp_len]; omega, t.1, by omega⟩
theorem OkBk.names {b : Book} (h : OkBk b) : (∀ n ∈ srtS (bNames b), txB 8 n) ∧ (srtS (bNames b)).length ≤ 200 := by
  have p := srtS_perm (bNames b)
  refine ⟨fun n hn => ?_, ?_⟩
  · obtain ⟨q, hq, rfl⟩ := List.mem_map.mp (p.mem_iff.mp hn)
    exact low_ok (h.name q hq)
  · rw [p.length_eq]
    unfold bNames
    rw [List.length_map]
    exact h.few
theorem OkBk.text {b : Book} (h : OkBk b) : txB 2000 (namesF b) := by
  unfold namesF
  split
  · exact ⟨by decide +kernel, by decide⟩
  · exact (names_size h.names.2 h.names.1).2
theorem OkBk.at {b : Book} (ok : OkBk b) {n : Str} {r : List Heap1} (e : atB b n = .ok r) : OkRl r := by
  unfold atB at e
  split at e
  · rename_i q
    cases e
    unfold bGet at q
    obtain ⟨u, h1, h2⟩ := Option.map_eq_some_iff.mp q
    rw [← h2]
    exact ok.rule u (List.mem_of_find?_eq_some h1)
  · cases e
theorem bPut_len (b : Book) (n : Str) (r : List Heap1) : (bPut b n r).length ≤ b.length + 1 := by
  unfold bPut
  split
  · rw [List.length_map]; omega
  · rw [List.length_append]; simp
theorem OkBk.put {b : Book} (ok : OkBk b) {n : Str} {r : List Heap1} (hl : b.length < 200) (hn : nameB n = true) (hr : OkRl r) : OkBk (bPut b n r) := by
  refine ⟨by have := bPut_len b n r; omega, fun q hq => ?_, fun q hq => ?_⟩
  · unfold bPut at hq
    split at hq
    · obtain ⟨u, hu, rfl⟩ := List.mem_map.mp hq
      split
      · exact hr
      · exact ok.rule u hu
    · rcases List.mem_append.mp hq with hq | hq
      · exact ok.rule q hq
      · rw [List.mem_singleton.mp hq]; exact hr
  · unfold bPut at hq
    split at hq
    · obtain ⟨u, hu, rfl⟩ := List.mem_map.mp hq
      split
      · exact ok.name u hu
      · exact ok.name u hu
    · rcases List.mem_append.mp hq with hq | hq
      · exact ok.name q hq
      · rw [List.mem_singleton.mp hq]; exact hn
theorem app_len (a b : Str) : (a ++ b).length = a.length + b.length := by
  rw [Dt.len_list, app_list, List.length_append, ← Dt.len_list, ← Dt.len_list]
/-! ### the whole line -/
def askF (w : Str) (b : Book) (ws : List Str) : Option (Ans Str) :=
  if w = "names" then some (namesLn b ws) else if w = "show" then some (showLn b ws) else if w = "keeps" then some (keepsLn b ws) else if w = "count" then some (countLn b ws) else if w = "list" then some (listLn b ws) else if w = "match" then some (matchLn b ws) else if w = "send" then some (sendLn b ws) else if w = "steps" then some (stepsLn b ws) else none
/-- what a line comes to: the answer, the desk behind it -/
def tellF (D : DeskS) (line : Str) : Ans (Str × DeskS) :=
  if ("" : Str) ∈ splW line then .error xLine else match splW line with
    | [] => .error xLine
    | w :: ws => match deedF w D.held ws with
      | some r => r >>= fun p => .ok (p.1, ⟨p.2, D.past ++ [D.held], []⟩)
      | none => match askF w D.held ws with
        | some r => r >>= fun t => .ok (t, D)
        | none => if w = "undo" then manyW ws 0 >>= fun _ => undoF D else if w = "again" then manyW ws 0 >>= fun _ => againF D else .error xLine
end Dt

/-! # Dt: lines told to the desk -/
namespace Dt
open PySem PySem.Spec PyProof.Rows L2
theorem name_free {n : Str} (h : nameB n = true) : (32 : Nat) ∉ n.cps.toList ∧ n ≠ "" := by
  unfold nameB at h
  simp only [Bool.and_eq_true, Bool.not_eq_true', decide_eq_false_iff_not, decide_eq_true_iff, List.all_eq_true] at h
  refine ⟨fun z => ?_, h.1.1⟩
  have := h.2 32 z
  unfold lowB at this
  simp at this
def ln (w n : Str) : Str := w ++ " " ++ n
/-- all that the telling of a line wants and gives -/
structure Told (D : DeskS) (line t : Str) (D' : DeskS) : Prop where
  tx : txB 90000 line
  send : ∀ w ws, splW line = w :: ws → w = "send" ∨ w = "steps" → SendOk D.held ws
  eq : tellF D line = .ok (t, D')
/-- bounds of a desk -/
structure DeskN (n m : Nat) (D : DeskS) : Prop where
  bk : ∀ b, b = D.held ∨ b ∈ D.past ∨ b ∈ D.ahead → OkBk b ∧ b.length ≤ m
  ln : D.past.length + D.ahead.length ≤ n
theorem DeskN.ok {n m : Nat} {D : DeskS} (h : DeskN n m D) (hn : n ≤ 100000) : OkDk D :=
  ⟨(h.bk _ (.inl rfl)).1, fun b hb => (h.bk b (.inr (.inl hb))).1, fun b hb => (h.bk b (.inr (.inr hb))).1, by have := h.ln; omega, by have := h.ln; omega⟩
theorem DeskN.put {n m : Nat} {D : DeskS} (h : DeskN n m D) (hm : m < 200) {x : Str} {r : List Heap1} (hx : nameB x = true) (ok : OkRl r) : DeskN (n + 1) (m + 1) ⟨bPut D.held x r, D.past ++ [D.held], []⟩ := by
  have hh := h.bk _ (.inl rfl)
  refine ⟨fun b hb => ?_, by have := h.ln; simp only [List.length_append, List.length_cons, List.length_nil]; omega⟩
  rcases hb with rfl | hb | hb
  · exact ⟨hh.1.put (by omega) hx ok, by have := bPut_len D.held x r; show (bPut D.held x r).length ≤ m + 1; omega⟩
  · rcases List.mem_append.mp hb with hb | hb
    · have := h.bk b (.inr (.inl hb)); exact ⟨this.1, by omega⟩
    · rw [List.mem_singleton.mp hb]; exact ⟨hh.1, by omega⟩
  · cases hb
theorem DeskN.undo {n m : Nat} {D : DeskS} (h : DeskN n m D) {b : Book} (e : D.past.getLast? = some b) : DeskN n m ⟨b, D.past.dropLast, D.ahead ++ [D.held]⟩ := by
  refine ⟨fun c hc => ?_, ?_⟩
  · rcases hc with rfl | hc | hc
    · exact h.bk _ (.inr (.inl (List.mem_of_getLast? e)))
    · exact h.bk _ (.inr (.inl (List.dropLast_subset _ hc)))
    · rcases List.mem_append.mp hc with hc | hc
      · exact h.bk _ (.inr (.inr hc))
      · rw [List.mem_singleton.mp hc]; exact h.bk _ (.inl rfl)
  · have := h.ln
    have h2 : 0 < D.past.length := by cases hp : D.past with | nil => rw [hp] at e; cases e | cons x y => simp
    simp only [List.length_append, List.length_cons, List.length_nil, List.length_dropLast]
    omega
theorem DeskN.again {n m : Nat} {D : DeskS} (h : DeskN n m D) {b : Book} (e : D.ahead.getLast? = some b) : DeskN n m ⟨b, D.past ++ [D.held], D.ahead.dropLast⟩ := by
  refine ⟨fun c hc => ?_, ?_⟩
  · rcases hc with rfl | hc | hc
    · exact h.bk _ (.inr (.inr (List.mem_of_getLast? e)))
    · rcases List.mem_append.mp hc with hc | hc
      · exact h.bk _ (.inr (.inl hc))
      · rw [List.mem_singleton.mp hc]; exact h.bk _ (.inl rfl)
    · exact h.bk _ (.inr (.inr (List.dropLast_subset _ hc)))
  · have := h.ln
    have h2 : 0 < D.ahead.length := by cases hp : D.ahead with | nil => rw [hp] at e; cases e | cons x y => simp
    simp only [List.length_append, List.length_cons, List.length_nil, List.length_dropLast]
    omega
/-! ### drawn names -/
structure NmP (lo hi : Nat) (w : Str) : Prop where
  low : ∀ c ∈ w.cps.toList, 97 ≤ c ∧ c ≤ 122
  least : lo ≤ w.length
  most : w.length ≤ hi
theorem NmP.app {a b c d : Nat} {x y : Str} (h : NmP a b x) (g : NmP c d y) : NmP (a + c) (b + d) (x ++ y) := by
  refine ⟨fun z hz => ?_, ?_, ?_⟩
  · rw [app_list] at hz
    rcases List.mem_append.mp hz with hz | hz
    · exact h.low z hz
    · exact g.low z hz
  · rw [app_len]; have := h.least; have := g.least; omega
  · rw [app_len]; have := h.most; have := g.most; omega
end Dt

/-! # Dt: calls that lend own things at any place, of defs that may hand one of them back -/
namespace Dt
open PySem PySem.Spec PyProof.Rows L2
section
variable {p : Pm} {F F' F0 : Lab} {I I' I0 H0 H1 H H' : Hp} {σ σ' : L2.St} {ρ ρ' ρ0 : Rho} {W : WX} {v : V} {o : O} {d : D} {c c' : C}
inductive LendX (p : Pm) (F : Lab) (I H : Hp) (σ : L2.St) (ρ : Rho) : List V → List (Option Nat) → List S → Prop
  | nil : LendX p F I H σ ρ [] [] []
  | dat {v : V} {d : D} {vs : List V} {js : List (Option Nat)} {ss : List S} : Dd p I v d → LendX p F I H σ ρ vs js ss → LendX p F I H σ ρ (v :: vs) (none :: js) (.d d :: ss)
  | cons {j : Nat} {a : Addr} {c : C} {vs : List V} {js : List (Option Nat)} {ss : List S} : σ[j]? = some (some (.ref a)) → cst ρ j = some c → Own p F I H (some j) (fun _ => True) a c → some j ∉ js → LendX p F I H σ ρ vs js ss → LendX p F I H σ ρ (.ref a :: vs) (some j :: js) (.lent a c :: ss)
abbrev OneX (js : List (Option Nat)) : Prop := ∀ (i i' j : Nat), js[i]? = some (some j) → js[i']? = some (some j) → i = i'
theorem oneX_cons {j : Option Nat} {js : List (Option Nat)} (h : OneX js) (n : j = none ∨ j ∉ js) : OneX (j :: js) := fun i i' x e e' => by
  cases i with
  | zero =>
    cases i' with
    | zero => rfl
    | succ i' =>
      cases e
      rcases n with n | n
      · cases n
      · exact absurd (List.mem_of_getElem? (show js[i']? = some (some x) by simpa using e')) n
  | succ i =>
    cases i' with
    | zero =>
      cases e'
      rcases n with n | n
      · cases n
      · exact absurd (List.mem_of_getElem? (show js[i]? = some (some x) by simpa using e)) n
    | succ i' => rw [h i i' x (by simpa using e) (by simpa using e')]
theorem LendX.one {vs : List V} {js : List (Option Nat)} {ss : List S} (L : LendX p F I H σ ρ vs js ss) : OneX js := by
  induction L with
  | nil => exact fun i i' j e => by simp at e
  | dat _ _ ih => exact oneX_cons ih (.inl rfl)
  | cons _ _ _ n _ ih => exact oneX_cons ih (.inr n)
theorem LendX.len {vs : List V} {js : List (Option Nat)} {ss : List S} (L : LendX p F I H σ ρ vs js ss) : ss.length = vs.length := by
  induction L with
  | nil => rfl
  | dat _ _ ih => simp [ih]
  | cons _ _ _ _ _ ih => simp [ih]
/-- slot i of the callee -/
theorem LendX.get {vs : List V} {js : List (Option Nat)} {ss : List S} (L : LendX p F I H σ ρ vs js ss) : ∀ (i : Nat) (s : S), ss[i]? = some s →
    (∃ j a c, js[i]? = some (some j) ∧ s = .lent a c ∧ vs[i]? = some (.ref a) ∧ σ[j]? = some (some (.ref a)) ∧ cst ρ j = some c ∧ Own p F I H (some j) (fun _ => True) a c) ∨ (js[i]? = some none ∧ ∃ d v, s = .d d ∧ vs[i]? = some v ∧ Dd p I v d) := by
  induction L with
  | nil => intro i s z; simp at z
  | @dat v d vs js ss r _ ih =>
    intro i s z
    cases i with
    | zero => cases z; exact .inr ⟨rfl, d, v, rfl, rfl, r⟩
    | succ i =>
      rcases ih i s (by simpa using z) with ⟨j, a, c, w⟩ | w
      · exact .inl ⟨j, a, c, by simpa using w⟩
      · exact .inr (by simpa using w)
  | @cons j a c vs js ss e1 e2 e3 e4 _ ih =>
    intro i s z
    cases i with
    | zero => cases z; exact .inl ⟨j, a, c, rfl, rfl, rfl, e1, e2, e3⟩
    | succ i =>
      rcases ih i s (by simpa using z) with ⟨j, a, c, w⟩ | w
      · exact .inl ⟨j, a, c, by simpa using w⟩
      · exact .inr (by simpa using w)
theorem LendX.at {vs : List V} {js : List (Option Nat)} {ss : List S} (L : LendX p F I H σ ρ vs js ss) {i j : Nat} (h : js[i]? = some (some j)) : ∃ a c, vs[i]? = some (.ref a) ∧ σ[j]? = some (some (.ref a)) ∧ cst ρ j = some c ∧ Own p F I H (some j) (fun _ => True) a c ∧ ss[i]? = some (.lent a c) := by
  induction L generalizing i with
  | nil => simp at h
  | dat _ _ ih =>
    cases i with
    | zero => cases h
    | succ i => simpa using ih (by simpa using h)
  | @cons j0 a c vs js ss e1 e2 e3 e4 _ ih =>
    cases i with
    | zero => cases h; exact ⟨a, c, rfl, e1, e2, e3, rfl⟩
    | succ i => simpa using ih (by simpa using h)
end
end Dt

/-! # Dt: the head by one kernel run, the facts read by a Hook of my own -/
namespace Dt
open PySem PySem.Spec PyProof.Rows L2
abbrev FrB : Type := PySem.W.Frag → Bool
def obsW (fa : List FrB) (fn : List He.DefD) (ts : List He.Tab) (K : PySem.W.Frag) : He.AlT := (((fa.all fun f => f K) && fn.all fun d => d.ok K, fn.map fun d => He.fnW K d.at_), ts.map fun t => He.dicW K (t.1 K))
def obsWG (as : List Addr) (fa : List FrB) (fn : List He.DefD) (ts : List He.Tab) (g : Addr → Option Obj) : He.AlT := obsW fa fn ts (He.frG g as)
def SaysW (fa : List FrB) (fn : List He.DefD) (ts : List He.Tab) (w : World) (K : PySem.W.Frag) : Prop := obsW fa fn ts K = He.valT fn ts w
def hookW (as : List Addr) (fa : List FrB) (fn : List He.DefD) (ts : List He.Tab) : PySem.W.Hook where
  α := He.AlT
  obs := fun s => obsWG as fa fn ts s.heap.get?
  val := fun w => He.valT fn ts w
  says := fun w h => ∃ K : PySem.W.Frag, K.In h ∧ SaysW fa fn ts w K
  of := fun _ _ e => ⟨_, He.frG_in, e⟩
  keeps := fun _ _ _ ⟨K, hK, c⟩ k => ⟨K, PySem.W.Frag.In.keeps hK k, c⟩
theorem obsWG_eq {as : List Addr} {fa : List FrB} {fn : List He.DefD} {ts : List He.Tab} {g : Addr → Option Obj} {s : Shared} (h : ∀ a, g a = s.heap.get? a) : obsWG as fa fn ts g = (hookW as fa fn ts).obs s := by
  have e : g = s.heap.get? := funext h
  rw [e] <;> rfl
section
variable {fa : List FrB} {fn : List He.DefD} {ts : List He.Tab} {w : World} {K : PySem.W.Frag} {mg : Str → Option Value} {h : Heap}
theorem SaysW.tab (c : SaysW fa fn ts w K) (i : Nat) {t : He.Tab} (h : ts[i]? = some t := by rfl) : He.dicW K (t.1 K) = some (He.keysIn w.params t.2) := by
  have e : ts.map (fun t => He.dicW K (t.1 K)) = ts.map fun t => some (He.keysIn w.params t.2) := congrArg (fun z : He.AlT => z.2) c
  have e2 : (ts.map fun t => He.dicW K (t.1 K))[i]? = (ts.map fun t => some (He.keysIn w.params t.2))[i]? := by rw [e]
  rw [List.getElem?_map, List.getElem?_map, h] at e2
  exact Option.some.inj e2
/-- a def of the text, no defaults -/
def dF (at_ : Str × Option Str) (q1 q2 : Str) (st : Stmt) : He.DefD := ⟨at_, q1, q2, defArgs st, defBody st, defScope st, [], []⟩
/-! ### facts of many names -/
def glosB (xs : List Str) : FrB := fun K => xs.all fun x => (He.Fa.glo x).ok K
def freesB (xs : List Str) : FrB := fun K => xs.all fun x => (He.Fa.free x).ok K
def noatB (x : Str) (fs : List Str) : FrB := fun K => fs.all fun f => (He.Fa.noat x f).ok K
def methB (x : Str) (ms : List Str) : FrB := fun K => ms.all fun m => (He.Fa.meth x m).ok K
/-- exception classes -/
def xcB (ks : List Nat) : FrB := fun K => (ks.all fun n => (He.Fa.glo (exN n)).ok K) && xchk K (ks.map fun n => (n, He.ga K (exN n)))
/-- an exception class with an __init__ -/
def xiB (x : Str) (fs : List Str) : FrB := fun K => (He.eqO (PySem.W.findIn K (.ref (He.ga K x)) "__init__") (some (some (.ref (He.ma K (He.ga K x) "__init__")))) && (decide (PySem.W.typeIn K (.ref (He.ma K (He.ga K x) "__init__")) = some (.type "function")) && oexB K (He.ga K x))) && noatB x fs K
end
end Dt

/-! # Dt: str(..) of ints and texts; what a desk answers or refuses -/
namespace Dt
open PySem PySem.Spec PyProof.Rows L2
/-! ### dues -/
inductive DueK where
  | told (t : Str) | name (n : Str) | rule | place | many | nothing
def dueA : DueK → DeskS → Ans (Str × DeskS)
  | .told t, D => .ok (t, D)
  | .name n, _ => .error (xName n)
  | .rule, _ => .error ⟨4, []⟩
  | .place, _ => .error ⟨6, []⟩
  | .many, _ => .error ⟨9, []⟩
  | .nothing, _ => .error ⟨16, []⟩
def dueOk : DueK → Bool
  | .told t => PyData.strOk t
  | .name t => PyData.strOk t
  | _ => true
def dueT : DueK → Bool
  | .told _ => true
  | _ => false
structure Says (D : DeskS) (line : Str) (u : DueK) (D' : DeskS) : Prop where
  tx : txB 90000 line
  send : ∀ w ws, splW line = w :: ws → w = "send" ∨ w = "steps" → SendOk D.held ws
  eq : tellF D line = dueA u D'
  same : dueT u = false → D' = D
  ok : dueOk u = true
theorem Told.says {D D' : DeskS} {line t : Str} (T : Told D line t D') (h : PyData.strOk t = true) : Says D line (.told t) D' := ⟨T.tx, T.send, T.eq, fun z => (by cases z), h⟩
def deskAt (bs : List Book) (i : Nat) : DeskS := ⟨bs.getD i [], bs.take i, (bs.drop (i + 1)).reverse⟩
structure OkBs (bs : List Book) : Prop where
  few : bs.length ≤ 1000
  ok : ∀ b ∈ bs, OkBk b
theorem OkBs.get {bs : List Book} (ok : OkBs bs) (j : Nat) : OkBk (bs.getD j []) := by
  rw [List.getD_eq_getElem?_getD]
  by_cases h : j < bs.length
  · rw [List.getElem?_eq_getElem h]
    exact ok.ok _ (List.getElem_mem h)
  · rw [List.getElem?_eq_none (by omega)]
    exact ⟨by simp, by simp, by simp⟩
theorem OkBs.desk {bs : List Book} (ok : OkBs bs) (j : Nat) : OkDk (deskAt bs j) := by
  have few := ok.few
  exact ⟨ok.get j, fun b hb => ok.ok b (List.mem_of_mem_take hb), fun b hb => ok.ok b (List.mem_of_mem_drop (List.mem_reverse.mp hb)), by show (bs.take j).length ≤ _; rw [List.length_take]; omega, by show (bs.drop (j + 1)).reverse.length ≤ _; rw [List.length_reverse, List.length_drop]; omega⟩
end Dt

/-! # Dt: lists of own lists -/
namespace Dt
open PySem PySem.Spec PyProof.Rows L2
/-! ### the head's facts of a def with one default -/
def dFD (at_ : Str × Option Str) (q1 q2 : Str) (st : Stmt) (i : Int) : He.DefD := ⟨at_, q1, q2, defArgs st, defBody st, defScope st, [.int i], []⟩
end Dt

/-! # Dt: the head's run, the facts in two parts -/
namespace Dt
open PySem PySem.Spec PyProof.Rows L2
theorem obsW_join {fa : List FrB} {fn : List He.DefD} {ts : List He.Tab} {w : World} {K : PySem.W.Frag} (h1 : obsW fa [] ts K = He.valT [] ts w) (h2 : obsW [] fn [] K = He.valT fn [] w) : obsW fa fn ts K = He.valT fn ts w := by
  have a1 : (fa.all fun f => f K) = true := by
    have := congrArg (fun z : He.AlT => z.1.1) h1
    have : ((fa.all fun f => f K) && true) = true := this
    rw [Bool.and_true] at this
    exact this
  have a2 : (fn.all fun d => d.ok K) = true := by
    have := congrArg (fun z : He.AlT => z.1.1) h2
    have : (true && (fn.all fun d => d.ok K)) = true := this
    rw [Bool.true_and] at this
    exact this
  have b2 : (fn.map fun d => He.fnW K d.at_) = fn.map He.DefD.val := congrArg (fun z : He.AlT => z.1.2) h2
  have c1 : (ts.map fun t => He.dicW K (t.1 K)) = ts.map fun t => some (He.keysIn w.params t.2) := congrArg (fun z : He.AlT => z.2) h1
  show (((fa.all fun f => f K) && fn.all fun d => d.ok K, fn.map fun d => He.fnW K d.at_), ts.map fun t => He.dicW K (t.1 K)) = ((true, fn.map He.DefD.val), ts.map fun t => some (He.keysIn w.params t.2))
  rw [a1, a2, b2, c1]
  rfl
abbrev obT (as : List Addr) (fa : List FrB) (fn : List He.DefD) (ts : List He.Tab) (s : PySem.W.SharedT) : He.AlT := obsWG as fa fn ts (HandSHeadRun.getT s)
theorem runEq_join {r : PySem.W.OpenRow} {q : Program} {M : Nat} {loose : List PySem.Str} {w : World} {as : List Addr} {fa : List FrB} {fn : List He.DefD} {ts : List He.Tab}
    (h1 : HandSHeadRun.RunEq r q (hookW as fa [] ts) (obT as fa [] ts) M loose w) (h2 : HandSHeadRun.RunEq r q (hookW as [] fn []) (obT as [] fn []) M loose w) :
    HandSHeadRun.RunEq r q (hookW as fa fn ts) (obT as fa fn ts) M loose w := by
  intro os
  have z1 := h1 os
  have z2 := h2 os
  cases e : HandSHeadRun.endF (HandSHeadRun.stepQ (HandSHeadRun.denQ HandSHeadRun.tabQ) r.prog w) M r.prog w os with
  | none => rw [e] at z1; cases z1
  | some s =>
    rw [e] at z1 z2
    rw [Option.map_some] at z1 z2 ⊢
    have y1 := Option.some.inj z1
    have y2 := Option.some.inj z2
    have u1 := congrArg Prod.fst y1
    have u2 := congrArg (fun z => z.2.1) y1
    have u3 := congrArg (fun z => z.2.2) y1
    have u4 := congrArg (fun z => z.2.2) y2
    have j : obT as fa fn ts s = He.valT fn ts w := obsW_join u3 u4
    exact congrArg some (Prod.ext u1 (Prod.ext u2 j))
end Dt

/-! # Dt: a set made of a list of nested tuples, none of them twice: the table -/
namespace Dt
open PySem PySem.Spec PyProof.Rows L2
/-! ### each slot is met -/
def FullP (m : Nat) : Prop := ∀ i j, i ≤ m → j ≤ m → ∃ k, k ≤ m ∧ lcgI m i k = j
def orbM (M : Nat) : Nat → Nat → Nat → Nat
  | 0, _, acc => acc
  | n + 1, x, acc => orbM M n ((x * 5 + 1) % M) (acc ||| 2 ^ x)
theorem lcgI_shift (m i : Nat) : ∀ k, lcgI m ((i * 5 + 1) % (m + 1)) k = lcgI m i (k + 1)
  | 0 => rfl
  | k + 1 => by
    have ih := lcgI_shift m i k
    show (lcgI m ((i * 5 + 1) % (m + 1)) k * 5 + 1) % (m + 1) = (lcgI m i (k + 1) * 5 + 1) % (m + 1)
    rw [ih]
theorem lcgI_more (m i a : Nat) : ∀ k, lcgI m (lcgI m i a) k = lcgI m i (a + k)
  | 0 => rfl
  | k + 1 => by
    have ih := lcgI_more m i a k
    show (lcgI m (lcgI m i a) k * 5 + 1) % (m + 1) = (lcgI m i (a + k) * 5 + 1) % (m + 1)
    rw [ih]
theorem orb_bit (m : Nat) : ∀ (n x acc j : Nat), (orbM (m + 1) n x acc).testBit j = true → acc.testBit j = true ∨ ∃ k, k < n ∧ lcgI m x k = j
  | 0, x, acc, j, h => .inl h
  | n + 1, x, acc, j, h => by
    rcases orb_bit m n _ _ j h with q | ⟨k, hk, e⟩
    · rw [Nat.testBit_or, Bool.or_eq_true] at q
      rcases q with q | q
      · exact .inl q
      · rw [Nat.testBit_two_pow] at q
        exact .inr ⟨0, by omega, of_decide_eq_true q⟩
    · rw [lcgI_shift] at e
      exact .inr ⟨k + 1, by omega, e⟩
theorem fullP_of {m : Nat} (h1 : orbM (m + 1) (m + 1) 0 0 = 2 ^ (m + 1) - 1) (h2 : lcgI m 0 (m + 1) = 0) : FullP m := by
  have at0 : ∀ j, j ≤ m → ∃ k, k ≤ m ∧ lcgI m 0 k = j := fun j hj => by
    have hb : (orbM (m + 1) (m + 1) 0 0).testBit j = true := by
      rw [h1, Nat.testBit_two_pow_sub_one]
      exact decide_eq_true (by omega)
    rcases orb_bit m (m + 1) 0 0 j hb with q | ⟨k, hk, e⟩
    · simp at q
    · exact ⟨k, by omega, e⟩
  intro i j hi hj
  obtain ⟨a, ha, ea⟩ := at0 i hi
  obtain ⟨b, hb, eb⟩ := at0 j hj
  by_cases c : a ≤ b
  · exact ⟨b - a, by omega, by rw [← ea, lcgI_more, show a + (b - a) = b by omega]; exact eb⟩
  · refine ⟨b + (m + 1) - a, by omega, ?_⟩
    rw [← ea, lcgI_more, show a + (b + (m + 1) - a) = (m + 1) + b by omega, ← lcgI_more, h2]
    exact eb
def maskL : List Nat := [7, 31, 127, 511, 2047]
theorem full_mask {m : Nat} (h : m ∈ maskL) : FullP m := by
  unfold maskL at h
  simp only [List.mem_cons, List.mem_nil_iff, or_false] at h
  rcases h with rfl | rfl | rfl | rfl | rfl
  · exact fullP_of (by decide +kernel) (by decide +kernel)
  · exact fullP_of (by decide +kernel) (by decide +kernel)
  · exact fullP_of (by decide +kernel) (by decide +kernel)
  · exact fullP_of (by decide +kernel) (by decide +kernel)
  · exact fullP_of (by decide +kernel) (by decide +kernel)
theorem run_all {m : Nat} (F : FullP m) (h : Int) {j : Nat} (hj : j ≤ m) : ∃ n, n ≤ m + 12 ∧ runI m (SetTable.bits h) n = j := by
  obtain ⟨k, hk, e⟩ := F _ j (runI_le m (SetTable.bits h) 12) hj
  refine ⟨12 + k, by omega, ?_⟩
  rw [runI_tail (bits_lt h)]
  exact e
theorem way_all {m : Nat} (F : FullP m) (h : Int) {j : Nat} (hj : j ≤ m) : ∃ k, k < 10 * SetTable.turns m ∧ way m h k = j := by
  obtain ⟨n, hn, e⟩ := run_all F h hj
  obtain ⟨k, hk, e2⟩ := run_nth m (SetTable.bits h) n
  refine ⟨k, by unfold SetTable.turns; omega, ?_⟩
  show (nth m (runAt m (SetTable.bits h % (m + 1)) (SetTable.bits h)) k).j = j
  rw [e2]
  exact e
theorem way_in {m : Nat} {h : Int} {k : Nat} : way m h k ≤ m := by
  have z : SetTable.bits h % (m + 1) ≤ m := Nat.le_of_lt_succ (Nat.mod_lt _ (Nat.succ_pos _))
  have b := runEnd_bd z
  have := nth_in (m := m) k (runAt m (SetTable.bits h % (m + 1)) (SetTable.bits h)) (by
    show SetTable.bits h % (m + 1) + (SetTable.runEnd m (SetTable.bits h % (m + 1)) - SetTable.bits h % (m + 1)) ≤ m
    omega)
  show (nth m (runAt m (SetTable.bits h % (m + 1)) (SetTable.bits h)) k).j ≤ m
  omega
/-! ### the table, its hashes aside -/
structure TabN (t : SetTable) (n : Nat) : Prop where
  up : Ris t.place.toList
  clean : t.dummies = #[]
  many : t.place.size = n
  good : t.mask ∈ maskL
  within : ∀ x ∈ t.place.toList, x ≤ t.mask
theorem TabN.free {t : SetTable} {n : Nat} (T : TabN t n) (hl : n ≤ t.mask) (h : Int) : ∃ K, K < 10 * SetTable.turns t.mask ∧ way t.mask h K ∉ t.place.toList ∧ ∀ k, k < K → way t.mask h k ∈ t.place.toList := by
  have few : t.place.toList.length < t.mask + 1 := by
    have := T.many
    rw [Array.length_toList]
    omega
  obtain ⟨j, hj, out⟩ := st_missing _ _ few
  obtain ⟨k, hk, e⟩ := way_all (full_mask T.good) h (show j ≤ t.mask by omega)
  have out : way t.mask h k ∉ t.place.toList := by rw [e]; exact out
  obtain ⟨K, a1, a2, a3⟩ := st_least (p := fun z => way t.mask h z ∉ t.place.toList) k out
  exact ⟨K, by omega, a2, fun z hz => Classical.byContradiction fun q => a3 z hz q⟩
theorem TabN.add {t : SetTable} {n : Nat} (T : TabN t n) {j : Nat} (hj : j ≤ t.mask) (out : j ∉ t.place.toList) :
    (t.put j).2 = SetTable.below t.place j ∧ SetTable.below t.place j ≤ n ∧ TabN (t.put j).1 (n + 1) ∧ (t.put j).1.mask = t.mask ∧ (t.put j).1.led = t.led ∧ (t.put j).1.plain = t.plain ∧ (t.put j).1.fill = n + 1 := by
  obtain ⟨c1, _, _⟩ := below_cut T.up j
  have many := T.many
  have lenp : SetTable.below t.place j ≤ t.place.toList.length := c1
  have row := put_place t j
  have size1 : (t.put j).1.place.size = n + 1 := by
    rw [← Array.length_toList, row, List.length_append, List.length_cons, List.length_take, List.length_drop]
    rw [Array.length_toList] at lenp ⊢
    omega
  have here : t.place[SetTable.below t.place j]? ≠ some j := fun e => out (List.mem_of_getElem? (by rw [Array.getElem?_toList]; exact e))
  refine ⟨rfl, by rw [← many]; exact c1, ⟨ris_insert T.up here, put_dm T.clean j, size1, T.good, fun x hx => ?_⟩, rfl, rfl, rfl, ?_⟩
  · rw [row] at hx
    rcases L2.mem_ins.1 hx with z | z
    · show x ≤ t.mask
      rw [z]; exact hj
    · exact T.within x z
  · show (t.put j).1.place.size + (t.put j).1.dummies.size = n + 1
    rw [size1, put_dm T.clean j]
    rfl
/-! ### laid anew -/
theorem free_any {m : Nat} (F : FullP m) (owner : Array (Option Nat)) (h : Int) {j : Nat} (hj : j ≤ m) (hf : oAt owner j = none) :
    ∃ K, SetTable.layClean.free m owner (SetTable.turns m) (SetTable.bits h % (m + 1)) (SetTable.bits h) = some (way m h K) ∧ oAt owner (way m h K) = none := by
  obtain ⟨n, hn, e⟩ := run_all F h hj
  have at_ : way m h (off m (SetTable.bits h % (m + 1)) (SetTable.bits h) n) = j := by
    show (nth m (runAt m (SetTable.bits h % (m + 1)) (SetTable.bits h)) (off m (SetTable.bits h % (m + 1)) (SetTable.bits h) n)).j = j
    rw [nth_off, itL_run]
    exact e
  obtain ⟨K, b1, b2, b3⟩ := st_least (p := fun z => oAt owner (way m h z) = none) _ (show oAt owner (way m h (off m (SetTable.bits h % (m + 1)) (SetTable.bits h) n)) = none by rw [at_]; exact hf)
  refine ⟨K, free_spec m owner _ n _ _ K (by unfold SetTable.turns; omega) b1 (fun z hz => ?_) ?_, b2⟩
  · have q := b3 z hz
    show (oAt owner (way m h z)).isNone = false
    cases y : oAt owner (way m h z) with
    | none => exact absurd y q
    | some _ => rfl
  · show (oAt owner (way m h K)).isNone = true
    rw [b2]
    rfl
/-- the numbers below n sit somewhere, each once -/
structure SitN (m n : Nat) (owner : Array (Option Nat)) : Prop where
  size : owner.size = m + 1
  less : ∀ j k, j ≤ m → oAt owner j = some k → k < n
  each : ∀ k, k < n → ∃ j, j ≤ m ∧ oAt owner j = some k
  some_ : ∃ ps : List Nat, ps.length = n ∧ ∀ j, j ≤ m → oAt owner j ≠ none → j ∈ ps
theorem SitN.next {m n : Nat} (F : FullP m) {owner : Array (Option Nat)} (W : SitN m n owner) (hl : n ≤ m) (h : Int) :
    ∃ j, SetTable.layClean.free m owner (SetTable.turns m) (SetTable.bits h % (m + 1)) (SetTable.bits h) = some j ∧ SitN m (n + 1) (owner.setIfInBounds j (some n)) := by
  obtain ⟨ps, lps, inps⟩ := W.some_
  obtain ⟨j0, lt0, out0⟩ := st_missing ps (m + 1) (by omega)
  have e0 : oAt owner j0 = none := by
    cases z : oAt owner j0 with
    | none => rfl
    | some k => exact absurd (inps j0 (by omega) (by rw [z]; simp)) out0
  obtain ⟨K, e1, e2⟩ := free_any F owner h (show j0 ≤ m by omega) e0
  have jm : way m h K ≤ m := way_in
  have js : way m h K < owner.size := by rw [W.size]; omega
  have same := oAt_set_self (some n) js
  refine ⟨_, e1, by rw [Array.size_setIfInBounds]; exact W.size, fun j k hj e => ?_, fun k hk => ?_, way m h K :: ps, by rw [List.length_cons, lps], fun j hj e => ?_⟩
  · by_cases c : j = way m h K
    · rw [c, same] at e
      cases e
      omega
    · rw [oAt_set_ne _ c] at e
      have := W.less j k hj e
      omega
  · by_cases c : k < n
    · obtain ⟨j, hj, e⟩ := W.each k c
      refine ⟨j, hj, ?_⟩
      rw [oAt_set_ne _ (fun z => by rw [z, e2] at e; cases e)]
      exact e
    · have : k = n := by omega
      subst this
      exact ⟨_, jm, same⟩
  · by_cases c : j = way m h K
    · rw [c]; exact List.mem_cons_self
    · rw [oAt_set_ne _ c] at e
      exact List.mem_cons_of_mem _ (inps j hj e)
/-! ### what the search asks of such tuples -/
mutual
def pureN : NK → Bool
  | .none => true
  | .num _ => true
  | .text _ => false
  | .tup ks => pureNs ks
def pureNs : List NK → Bool
  | [] => true
  | k :: ks => pureN k && pureNs ks
end
section
variable {P : Program} {w : World} {s : Shared}
/-- the tuple at b is the key k, and the key is of numbers -/
structure Kat (h : Heap) (k : NK) (b : Addr) : Prop where
  is_ : NestedIs h k (.ref b)
  deep : k.depth ≤ 8
  pure_ : pureN k = true
theorem Kat.same {h h' : Heap} {k : NK} {a b : Addr} {o : Obj} {es : Array (Int × Value)} {ep : Nat} {t : SetTable} (x : Kat h k b) (e1 : h.get? a = some o) (e2 : o.data = .set es ep t) (sb : Heap.SameBut a h h') : Kat h' k b :=
  ⟨NestedIs.at (fun c u vs n g1 g2 => by
    have ne : c ≠ a := by
      intro z
      rw [z, e1] at g1
      cases g1
      rw [e2] at g2
      cases g2
    exact (sb.2 c ne).trans g1) k _ x.is_, x.deep, x.pure_⟩
theorem Kat.keep {h h' : Heap} {k : NK} {b : Addr} (x : Kat h k b) (kp : ∀ c o, h.get? c = some o → h'.get? c = some o) : Kat h' k b :=
  ⟨NestedIs.at (fun c u vs n g1 _ => kp c u g1) k _ x.is_, x.deep, x.pure_⟩
variable {A : Around} {E : Value → Shared → Prop}
end
/-! ### the set -/
def nsRows (w : World) (L : List (Addr × NK)) : List (Int × Value) := L.map fun q => (q.2.hash w, Value.ref q.1)
structure SetN (w : World) (h : Heap) (a : Addr) (L : List (Addr × NK)) (es : Array (Int × Value)) (ep : Nat) (t : SetTable) : Prop where
  at_ : ∃ o, h.get? a = some o ∧ o.ExactSet ∧ o.data = .set es ep t
  rows : es.toList = nsRows w L
  tab : TabN t L.length
  keys : ∀ q ∈ L, Kat h q.2 q.1
  plain : t.plain = true
  led : w.params.followText "set-order" = true ∨ t.led = true
  room : L.length * 5 < t.mask * 3
  few : L.length ≤ 1000
section
variable {P : Program} {w : World} {A : Around} {E : Value → Shared → Prop} {s : Shared} {a : Addr} {L : List (Addr × NK)} {es : Array (Int × Value)} {ep : Nat} {t : SetTable}
theorem SetN.keep {h h' : Heap} (R : SetN w h a L es ep t) (ha : ∀ o, h.get? a = some o → h'.get? a = some o) (hk : ∀ q ∈ L, Kat h' q.2 q.1) : SetN w h' a L es ep t := by
  obtain ⟨o, g1, g2⟩ := R.at_
  exact ⟨⟨o, ha o g1, g2⟩, R.rows, R.tab, hk, R.plain, R.led, R.room, R.few⟩
end
end Dt

/-! # Dt: lines whose words are exchanged; what a desk makes of them -/
namespace Dt
open PySem PySem.Spec PyProof.Rows L2
/-! ### a dict of texts -/
abbrev Wd := List (Str × Str)
def wdv (g : Wd) : List (Key × D) := g.map fun q => (.inr q.1, .str q.2)
def wdD (g : Wd) : D := dcD (wdv g)
def putW (g : Wd) (n m : Str) : Wd := if (g.any fun q => decide (q.1 = n)) = true then g.map (fun q => if q.1 = n then (q.1, m) else q) else g ++ [(n, m)]
theorem unk_inW {b : Wd} {k : List (Key × D) → Prop} (h : k (wdv b)) : (match unkD ((wdv b).map fun q => (keyD q.1, q.2)) with
  | some kvs => k kvs
  | none => False) := by rw [unkD_map]; exact h
end Dt

/-! # Dt: lines that are refused, and why -/
namespace Dt
open PySem PySem.Spec PyProof.Rows L2
/-! ### small rules -/
structure RawR (r : List Heap1) : Prop where
  most : r.length ≤ 6
  each : ∀ h ∈ r, isHeap h ∧ h.length ≤ 60 ∧ ∀ x ∈ h, x ≤ 64
theorem RawR.ok {r : List Heap1} (h : RawR r) : OkRl r := ⟨h.most, fun g hg => ⟨(h.each g hg).1, (h.each g hg).2.1, fun x hx => by have := (h.each g hg).2.2 x hx; omega⟩⟩
end Dt

/-! # Dt: tables of lines that are refused -/
namespace Dt
open PySem PySem.Spec PyProof.Rows L2
/-! ### substitutions -/
def keysN : List Str := ["A", "B", "C", "S", "U", "V"]
structure NamesP (g : Wd) : Prop where
  keys : g.map (·.1) = keysN
  name : ∀ q ∈ g, nameB q.2 = true
theorem NamesP.put {g : Wd} (G : NamesP g) {x : Str} (hx : nameB x = true) : NamesP (putW g "A" x) := by
  unfold putW
  have hk : (g.any fun q => decide (q.1 = "A")) = true := by
    have : ("A" : Str) ∈ g.map (·.1) := by rw [G.keys]; decide +kernel
    obtain ⟨q, hq, e⟩ := List.mem_map.mp this
    exact List.any_eq_true.mpr ⟨q, hq, decide_eq_true e⟩
  rw [if_pos hk]
  refine ⟨?_, fun q hq => ?_⟩
  · rw [List.map_map, ← G.keys]
    refine List.map_congr_left fun q _ => ?_
    show (if q.1 = "A" then (q.1, x) else q).1 = q.1
    split <;> rfl
  · obtain ⟨p, hp, rfl⟩ := List.mem_map.mp hq
    split
    · exact hx
    · exact G.name p hp
theorem NamesP.free {g : Wd} (G : NamesP g) : ∀ q ∈ g, (32 : Nat) ∉ q.2.cps.toList := fun q hq => (name_free (G.name q hq)).1
end Dt

/-! # Dt: words that are numbers -/
namespace Dt
open PySem PySem.Spec PyProof.Rows L2
theorem dicW {ρ : Rho} {g : Wd} {k : List (Key × D) → Prop} (h : k (wdv g)) : dicO ρ (.d (wdD g)) k := unk_inW h
end Dt

namespace K54
open PySem PySem.Spec PyProof.Rows L2 Dt

def topS (i : Nat) : Stmt := PySem.Challenge.pw_shutpairs_k54_whole_each_walk_leads_back.main.body.getD i (.Pass ⟨0, 0, 0, 0⟩)
abbrev s_chosen : Stmt := topS 23
theorem sc_chosen : FnScope ["numbers", "found", "code", "at", "number"] ["numbers"] (defScope s_chosen) := ⟨rfl, rfl, rfl, by decide +kernel, rfl, by decide +kernel, by decide +kernel⟩
abbrev s_choices_of : Stmt := topS 24
theorem sc_choices_of : FnScope ["rule"] ["rule"] (defScope s_choices_of) := ⟨rfl, rfl, rfl, by decide +kernel, rfl, by decide +kernel, by decide +kernel⟩
abbrev s_unlike_parts : Stmt := topS 14
theorem sc_unlike_parts : FnScope ["heaps", "seen", "heap", "part"] ["heaps"] (defScope s_unlike_parts) := ⟨rfl, rfl, rfl, by decide +kernel, rfl, by decide +kernel, by decide +kernel⟩
abbrev s_joined : Stmt := topS 15
theorem sc_joined : FnScope ["heaps", "found", "part", "heap"] ["heaps"] (defScope s_joined) := ⟨rfl, rfl, rfl, by decide +kernel, rfl, by decide +kernel, by decide +kernel⟩
abbrev s_joined_of : Stmt := topS 25
theorem sc_joined_of : FnScope ["rule", "choice", "number"] ["rule", "choice"] (defScope s_joined_of) := ⟨rfl, rfl, rfl, by decide +kernel, rfl, by decide +kernel, by decide +kernel⟩
abbrev s_sum_of : Stmt := topS 12
theorem sc_sum_of : FnScope ["heap"] ["heap"] (defScope s_sum_of) := ⟨rfl, rfl, rfl, by decide +kernel, rfl, by decide +kernel, by decide +kernel⟩
abbrev s_sums_of : Stmt := topS 40
theorem sc_sums_of : FnScope ["rule", "choice"] ["rule"] (defScope s_sums_of) := ⟨rfl, rfl, rfl, by decide +kernel, rfl, by decide +kernel, by decide +kernel⟩
abbrev s_first_unlike : Stmt := topS 41
theorem sc_first_unlike : FnScope ["one", "other", "choice", "mine", "same", "theirs"] ["one", "other"] (defScope s_first_unlike) := ⟨rfl, rfl, rfl, by decide +kernel, rfl, by decide +kernel, by decide +kernel⟩
abbrev s_Beside : Stmt := clsS (topS 42) 0
theorem sc_Beside : FnScope ["self", "one", "other", "unlike"] ["self", "one", "other"] (defScope s_Beside) := ⟨rfl, rfl, rfl, by decide +kernel, rfl, by decide +kernel, by decide +kernel⟩
abbrev s_Beside_back : Stmt := clsS (topS 42) 2
theorem sc_Beside_back : FnScope ["self"] ["self"] (defScope s_Beside_back) := ⟨rfl, rfl, rfl, by decide +kernel, rfl, by decide +kernel, by decide +kernel⟩
abbrev s__law_mix : Stmt := topS 46
theorem sc__law_mix : FnScope ["_law_state", "_law_count", "_law_cell", "_law_stirred"] ["_law_state"] (defScope s__law_mix) := ⟨rfl, rfl, rfl, by decide +kernel, rfl, by decide +kernel, by decide +kernel⟩
abbrev s__law_draw : Stmt := topS 45
theorem sc__law_draw : FnScope ["_law_state", "_law_many", "_law_told_here", "_law_size"] ["_law_state", "_law_many"] (defScope s__law_draw) := ⟨rfl, rfl, rfl, by decide +kernel, rfl, by decide +kernel, by decide +kernel⟩
abbrev s__law_lies : Stmt := topS 48
theorem sc__law_lies : FnScope ["_law_one", "_law_other", "_law_part"] ["_law_one", "_law_other"] (defScope s__law_lies) := ⟨rfl, rfl, rfl, by decide +kernel, rfl, by decide +kernel, by decide +kernel⟩
abbrev s__law_first : Stmt := topS 50
theorem sc__law_first : FnScope ["_law_rule_here", "_law_heap_here", "_law_number"] ["_law_rule_here", "_law_heap_here"] (defScope s__law_first) := ⟨rfl, rfl, rfl, by decide +kernel, rfl, by decide +kernel, by decide +kernel⟩
abbrev s__law_heap : Stmt := topS 47
theorem sc__law_heap : FnScope ["_law_state", "_law_size", "_law_top", "_law_parts", "_law_k"] ["_law_state", "_law_size", "_law_top"] (defScope s__law_heap) := ⟨rfl, rfl, rfl, by decide +kernel, rfl, by decide +kernel, by decide +kernel⟩
abbrev s__law_held : Stmt := topS 68
theorem sc__law_held : FnScope ["_law_one", "_law_other", "_law_sided"] ["_law_one", "_law_other"] (defScope s__law_held) := ⟨rfl, rfl, rfl, by decide +kernel, rfl, by decide +kernel, by decide +kernel⟩
abbrev s__law_choices : Stmt := topS 52
theorem sc__law_choices : FnScope ["_law_many", "_law_found", "_law_number", "_law_choice"] ["_law_many"] (defScope s__law_choices) := ⟨rfl, rfl, rfl, by decide +kernel, rfl, by decide +kernel, by decide +kernel⟩
abbrev s__law_joined : Stmt := topS 49
theorem sc__law_joined : FnScope ["_law_heaps", "_law_found", "_law_heap_here", "_law_part"] ["_law_heaps"] (defScope s__law_joined) := ⟨rfl, rfl, rfl, by decide +kernel, rfl, by decide +kernel, by decide +kernel⟩
abbrev s__law_match : Stmt := topS 64
theorem sc__law_match : FnScope ["_law_one", "_law_other", "_law_choice", "_law_mine", "_law_number"] ["_law_one", "_law_other"] (defScope s__law_match) := ⟨rfl, rfl, rfl, by decide +kernel, rfl, by decide +kernel, by decide +kernel⟩
abbrev s__law_partings : Stmt := topS 51
theorem sc__law_partings : FnScope ["_law_n", "_law_top", "_law_found", "_law_part", "_law_rest"] ["_law_n", "_law_top"] (defScope s__law_partings) := ⟨rfl, rfl, rfl, by decide +kernel, rfl, by decide +kernel, by decide +kernel⟩
abbrev s__law_same : Stmt := topS 57
theorem sc__law_same : FnScope ["_law_found", "_law_due", "_law_one", "_law_other"] ["_law_found", "_law_due"] (defScope s__law_same) := ⟨rfl, rfl, rfl, by decide +kernel, rfl, by decide +kernel, by decide +kernel⟩
abbrev s__law_start : Stmt := topS 44
theorem sc__law_start : FnScope ["_law_script", "_law_great", "_law_cell"] ["_law_script"] (defScope s__law_start) := ⟨rfl, rfl, rfl, by decide +kernel, rfl, by decide +kernel, by decide +kernel⟩
abbrev s__law_less : Stmt := topS 59
theorem sc__law_less : FnScope ["_law_heap_here", "_law_out", "_law_rest", "_law_part"] ["_law_heap_here", "_law_out"] (defScope s__law_less) := ⟨rfl, rfl, rfl, by decide +kernel, rfl, by decide +kernel, by decide +kernel⟩
abbrev s__law_put : Stmt := topS 58
theorem sc__law_put : FnScope ["_law_one", "_law_other"] ["_law_one", "_law_other"] (defScope s__law_put) := ⟨rfl, rfl, rfl, by decide +kernel, rfl, by decide +kernel, by decide +kernel⟩
abbrev s__law_crossed : Stmt := topS 61
theorem sc__law_crossed : FnScope ["_law_rules", "_law_place", "_law_side", "_law_heap_here", "_law_choice", "_law_out", "_law_number", "_law_more"] ["_law_rules", "_law_place"] (defScope s__law_crossed) := ⟨rfl, rfl, rfl, by decide +kernel, rfl, by decide +kernel, by decide +kernel⟩
abbrev s__law_toggled : Stmt := topS 60
theorem sc__law_toggled : FnScope ["_law_rules", "_law_place", "_law_side", "_law_heap_here", "_law_choice", "_law_number", "_law_one"] ["_law_rules", "_law_place"] (defScope s__law_toggled) := ⟨rfl, rfl, rfl, by decide +kernel, rfl, by decide +kernel, by decide +kernel⟩
abbrev s__law_steps_right : Stmt := topS 67
theorem sc__law_steps_right : FnScope ["_law_rules", "_law_rows", "_law_at", "_law_due"] ["_law_rules", "_law_rows"] (defScope s__law_steps_right) := ⟨rfl, rfl, rfl, by decide +kernel, rfl, by decide +kernel, by decide +kernel⟩
abbrev s_Beside_rules : Stmt := clsS (topS 42) 1
theorem sc_Beside_rules : FnScope ["self"] ["self"] (defScope s_Beside_rules) := ⟨rfl, rfl, rfl, by decide +kernel, rfl, by decide +kernel, by decide +kernel⟩
abbrev s_lies_in : Stmt := topS 13
theorem sc_lies_in : FnScope ["one", "other", "part"] ["one", "other"] (defScope s_lies_in) := ⟨rfl, rfl, rfl, by decide +kernel, rfl, by decide +kernel, by decide +kernel⟩
abbrev s_all_in : Stmt := topS 19
theorem sc_all_in : FnScope ["rule", "heap", "number", "one"] ["rule", "heap"] (defScope s_all_in) := ⟨rfl, rfl, rfl, by decide +kernel, rfl, by decide +kernel, by decide +kernel⟩
abbrev s_first_in : Stmt := topS 20
theorem sc_first_in : FnScope ["rule", "heap", "found"] ["rule", "heap"] (defScope s_first_in) := ⟨rfl, rfl, rfl, by decide +kernel, rfl, by decide +kernel, by decide +kernel⟩
abbrev s_held_keeper : Stmt := topS 35
theorem sc_held_keeper : FnScope ["sided", "heap", "number"] ["sided", "heap"] (defScope s_held_keeper) := ⟨rfl, rfl, rfl, by decide +kernel, rfl, by decide +kernel, by decide +kernel⟩
abbrev s_is_pair : Stmt := topS 27
theorem sc_is_pair : FnScope ["rule", "heap", "choice", "last", "number"] ["rule", "heap", "choice"] (defScope s_is_pair) := ⟨rfl, rfl, rfl, by decide +kernel, rfl, by decide +kernel, by decide +kernel⟩
abbrev s_held_pair : Stmt := topS 28
theorem sc_held_pair : FnScope ["rule", "pair"] ["rule", "pair"] (defScope s_held_pair) := ⟨rfl, rfl, rfl, by decide +kernel, rfl, by decide +kernel, by decide +kernel⟩
abbrev s_heap_of : Stmt := topS 11
theorem sc_heap_of : FnScope ["parts", "part"] ["parts"] (defScope s_heap_of) := ⟨rfl, rfl, rfl, by decide +kernel, rfl, by decide +kernel, by decide +kernel⟩
abbrev s_put : Stmt := topS 16
theorem sc_put : FnScope ["one", "other"] ["one", "other"] (defScope s_put) := ⟨rfl, rfl, rfl, by decide +kernel, rfl, by decide +kernel, by decide +kernel⟩
abbrev s_sides_of : Stmt := topS 31
theorem sc_sides_of : FnScope ["sided", "side", "one", "other"] ["sided", "side"] (defScope s_sides_of) := ⟨rfl, rfl, rfl, by decide +kernel, rfl, by decide +kernel, by decide +kernel⟩
abbrev s_taken : Stmt := topS 17
theorem sc_taken : FnScope ["one", "other", "left", "part"] ["one", "other"] (defScope s_taken) := ⟨rfl, rfl, rfl, by decide +kernel, rfl, by decide +kernel, by decide +kernel⟩
abbrev s_crossed : Stmt := topS 32
theorem sc_crossed : FnScope ["sided", "place", "side", "heap", "choice", "rule", "other", "left"] ["sided", "place"] (defScope s_crossed) := ⟨rfl, rfl, rfl, by decide +kernel, rfl, by decide +kernel, by decide +kernel⟩
abbrev s_keeps : Stmt := topS 21
theorem sc_keeps : FnScope ["rule", "heap"] ["rule", "heap"] (defScope s_keeps) := ⟨rfl, rfl, rfl, by decide +kernel, rfl, by decide +kernel, by decide +kernel⟩
abbrev s_partner_of : Stmt := topS 29
theorem sc_partner_of : FnScope ["rule", "pair", "heap", "choice", "first", "number"] ["rule", "pair"] (defScope s_partner_of) := ⟨rfl, rfl, rfl, by decide +kernel, rfl, by decide +kernel, by decide +kernel⟩
abbrev s_toggled : Stmt := topS 33
theorem sc_toggled : FnScope ["sided", "place", "side", "heap", "choice", "partner"] ["sided", "place"] (defScope s_toggled) := ⟨rfl, rfl, rfl, by decide +kernel, rfl, by decide +kernel, by decide +kernel⟩
abbrev s_next_place : Stmt := topS 36
theorem sc_next_place : FnScope ["sided", "place", "toggle"] ["sided", "place", "toggle"] (defScope s_next_place) := ⟨rfl, rfl, rfl, by decide +kernel, rfl, by decide +kernel, by decide +kernel⟩
abbrev s_walk_of : Stmt := topS 37
theorem sc_walk_of : FnScope ["sided", "heap", "most", "rows", "place"] ["sided", "heap", "most"] (defScope s_walk_of) := ⟨rfl, rfl, rfl, by decide +kernel, rfl, by decide +kernel, by decide +kernel⟩
abbrev s__law_told : Stmt := topS 66
theorem sc__law_told : FnScope ["_law_sided", "_law_heap_here", "_law_told_here", "e"] ["_law_sided", "_law_heap_here"] (defScope s__law_told) := ⟨rfl, rfl, rfl, by decide +kernel, rfl, by decide +kernel, by decide +kernel⟩
abbrev s__law_lane : Stmt := topS 53
theorem sc__law_lane : FnScope ["_law_left", "_law_right", "_law_split", "_law_levels", "_law_base", "_law_by", "_law_ones", "_law_others", "_law_level"] ["_law_left", "_law_right", "_law_split", "_law_levels"] (defScope s__law_lane) := ⟨rfl, rfl, rfl, by decide +kernel, rfl, by decide +kernel, by decide +kernel⟩
abbrev s__law_rule : Stmt := topS 55
theorem sc__law_rule : FnScope ["_law_rows", "_law_row"] ["_law_rows"] (defScope s__law_rule) := ⟨rfl, rfl, rfl, by decide +kernel, rfl, by decide +kernel, by decide +kernel⟩
abbrev s__law_matched : Stmt := topS 54
theorem sc__law_matched : FnScope ["_law_state", "_law_top", "_law_many", "_law_ones", "_law_k", "_law_others", "_law_lefts", "_law_rights", "_law_lane_here", "_law_left", "_law_right", "_law_split", "_law_levels", "_law_mine", "_law_theirs", "_law_heap_here", "_law_more"] ["_law_state", "_law_top"] (defScope s__law_matched) := ⟨rfl, rfl, rfl, by decide +kernel, rfl, by decide +kernel, by decide +kernel⟩
abbrev s__law_raw_rule : Stmt := topS 56
theorem sc__law_raw_rule : FnScope ["_law_state", "_law_many", "_law_size", "_law_top", "_law_k"] ["_law_state", "_law_many", "_law_size", "_law_top"] (defScope s__law_raw_rule) := ⟨rfl, rfl, rfl, by decide +kernel, rfl, by decide +kernel, by decide +kernel⟩
abbrev s__law_two : Stmt := topS 65
theorem sc__law_two : FnScope ["_law_state", "_law_many", "_law_one"] ["_law_state"] (defScope s__law_two) := ⟨rfl, rfl, rfl, by decide +kernel, rfl, by decide +kernel, by decide +kernel⟩
abbrev s__law_walk : Stmt := topS 62
theorem sc__law_walk : FnScope ["_law_rules", "_law_heap_here", "_law_limit", "_law_rows", "_law_further"] ["_law_rules", "_law_heap_here", "_law_limit"] (defScope s__law_walk) := ⟨rfl, rfl, rfl, by decide +kernel, rfl, by decide +kernel, by decide +kernel⟩
abbrev s_is_walk : Stmt := topS 38
theorem sc_is_walk : FnScope ["sided", "rows", "place", "at", "row"] ["sided", "rows"] (defScope s_is_walk) := ⟨rfl, rfl, rfl, by decide +kernel, rfl, by decide +kernel, by decide +kernel⟩
abbrev s_law : Stmt := topS 69
theorem sc_law : FnScope ["_law_script", "_law_state", "_law_rules", "_law_sided", "_law_n", "_law_heaps", "_law_heap_here", "_law_told_here", "_law_number", "_law_about", "_law_side", "_law_one", "_law_choice"] ["_law_script"] (defScope s_law) := ⟨rfl, rfl, rfl, by decide +kernel, rfl, by decide +kernel, by decide +kernel⟩
abbrev sI_17 : Stmt := clsS (topS 6) 0
theorem scI_17 : FnScope ["self", "part"] ["self", "part"] (defScope sI_17) := ⟨rfl, rfl, rfl, by decide +kernel, rfl, by decide +kernel, by decide +kernel⟩
abbrev sI_18 : Stmt := clsS (topS 7) 0
theorem scI_18 : FnScope ["self", "number"] ["self", "number"] (defScope sI_18) := ⟨rfl, rfl, rfl, by decide +kernel, rfl, by decide +kernel, by decide +kernel⟩
abbrev sI_19 : Stmt := clsS (topS 8) 0
theorem scI_19 : FnScope ["self", "choice", "one", "other"] ["self", "choice", "one", "other"] (defScope sI_19) := ⟨rfl, rfl, rfl, by decide +kernel, rfl, by decide +kernel, by decide +kernel⟩
abbrev sI_20 : Stmt := clsS (topS 9) 0
theorem scI_20 : FnScope ["self", "place"] ["self", "place"] (defScope sI_20) := ⟨rfl, rfl, rfl, by decide +kernel, rfl, by decide +kernel, by decide +kernel⟩
def nm0 : List Str := ["ShutError", "NotIn", "NoPair", "NotPaired", "NotSoMany", "NoHeap", "NotKept", "Unmatched", "TooLong", "heap_of", "sum_of", "lies_in", "unlike_parts", "joined", "put", "taken", "all_in", "first_in", "keeps", "chosen", "choices_of", "joined_of", "is_pair", "held_pair", "partner_of", "sides_of", "crossed", "toggled", "held_keeper", "next_place"]
def nm1 : List Str := ["walk_of", "is_walk", "sums_of", "first_unlike", "Beside", "_law_start", "_law_draw", "_law_mix", "_law_heap", "_law_lies", "_law_joined", "_law_first", "_law_partings", "_law_choices", "_law_lane", "_law_matched", "_law_rule", "_law_raw_rule", "_law_same", "_law_put", "_law_less", "_law_toggled", "_law_crossed", "_law_walk", "_law_keepers", "_law_match", "_law_two", "_law_told", "_law_steps_right", "_law_held"]
def names : List Str := nm0 ++ nm1
def glos0 : List Str := ["chosen", "choices_of", "unlike_parts", "joined", "joined_of", "sum_of", "sums_of", "first_unlike", "Beside", "_law_mix", "_law_draw", "_law_lies", "_law_first", "_law_heap", "_law_held", "_law_choices", "_law_joined", "_law_match", "_law_partings", "_law_same", "_law_start", "_law_less", "_law_put", "_law_crossed", "_law_toggled", "_law_steps_right", "lies_in", "all_in", "first_in", "held_keeper"]
def glos1 : List Str := ["is_pair", "held_pair", "heap_of", "put", "sides_of", "taken", "crossed", "keeps", "partner_of", "toggled", "next_place", "walk_of", "_law_told", "_law_lane", "_law_rule", "_law_matched", "_law_raw_rule", "_law_two", "_law_walk", "is_walk", "law"]
def glos : List Str := glos0 ++ glos1
def frees : List Str := ["all", "bool", "enumerate", "int", "isinstance", "len", "list", "max", "min", "range", "set", "sorted", "str", "sum", "tuple", "zip"]
def factsL : List FrB := [glosB glos, freesB frees, (He.Fa.cls "Beside").ok, noatB "Beside" ["left", "right"], (He.Fa.mkr "Beside").ok, methB "Beside" ["back", "rules"], xcB [0, 2, 7, 8, 9, 17, 18, 19, 20], xiB "NoHeap" ["part"], xiB "NotKept" ["number"], xiB "Unmatched" ["choice", "one", "other"], xiB "TooLong" ["place"]]
def defsL0 : List He.DefD := [dF ("chosen", none) "chosen" "chosen" s_chosen, dF ("choices_of", none) "choices_of" "choices_of" s_choices_of, dF ("unlike_parts", none) "unlike_parts" "unlike_parts" s_unlike_parts, dF ("joined", none) "joined" "joined" s_joined, dF ("joined_of", none) "joined_of" "joined_of" s_joined_of, dF ("sum_of", none) "sum_of" "sum_of" s_sum_of, dF ("sums_of", none) "sums_of" "sums_of" s_sums_of, dF ("first_unlike", none) "first_unlike" "first_unlike" s_first_unlike, dF ("Beside", some "__init__") "__init__" "Beside.__init__" s_Beside, dF ("Beside", some "back") "back" "Beside.back" s_Beside_back, dF ("_law_mix", none) "_law_mix" "_law_mix" s__law_mix, dF ("_law_draw", none) "_law_draw" "_law_draw" s__law_draw, dF ("_law_lies", none) "_law_lies" "_law_lies" s__law_lies, dF ("_law_first", none) "_law_first" "_law_first" s__law_first, dF ("_law_heap", none) "_law_heap" "_law_heap" s__law_heap, dF ("_law_held", none) "_law_held" "_law_held" s__law_held, dF ("_law_choices", none) "_law_choices" "_law_choices" s__law_choices, dF ("_law_joined", none) "_law_joined" "_law_joined" s__law_joined, dF ("_law_match", none) "_law_match" "_law_match" s__law_match, dF ("_law_partings", none) "_law_partings" "_law_partings" s__law_partings, dF ("_law_same", none) "_law_same" "_law_same" s__law_same, dF ("_law_start", none) "_law_start" "_law_start" s__law_start, dF ("_law_less", none) "_law_less" "_law_less" s__law_less, dF ("_law_put", none) "_law_put" "_law_put" s__law_put, dF ("_law_crossed", none) "_law_crossed" "_law_crossed" s__law_crossed, dF ("_law_toggled", none) "_law_toggled" "_law_toggled" s__law_toggled, dF ("_law_steps_right", none) "_law_steps_right" "_law_steps_right" s__law_steps_right, dF ("Beside", some "rules") "rules" "Beside.rules" s_Beside_rules, dF ("lies_in", none) "lies_in" "lies_in" s_lies_in, dF ("all_in", none) "all_in" "all_in" s_all_in]
def defsL1 : List He.DefD := [dF ("first_in", none) "first_in" "first_in" s_first_in, dF ("held_keeper", none) "held_keeper" "held_keeper" s_held_keeper, dF ("is_pair", none) "is_pair" "is_pair" s_is_pair, dF ("held_pair", none) "held_pair" "held_pair" s_held_pair, dF ("heap_of", none) "heap_of" "heap_of" s_heap_of, dF ("put", none) "put" "put" s_put, dF ("sides_of", none) "sides_of" "sides_of" s_sides_of, dF ("taken", none) "taken" "taken" s_taken, dF ("crossed", none) "crossed" "crossed" s_crossed, dF ("keeps", none) "keeps" "keeps" s_keeps, dF ("partner_of", none) "partner_of" "partner_of" s_partner_of, dF ("toggled", none) "toggled" "toggled" s_toggled, dF ("next_place", none) "next_place" "next_place" s_next_place, dFD ("walk_of", none) "walk_of" "walk_of" s_walk_of 1000, dF ("_law_told", none) "_law_told" "_law_told" s__law_told, dF ("_law_lane", none) "_law_lane" "_law_lane" s__law_lane, dF ("_law_rule", none) "_law_rule" "_law_rule" s__law_rule, dF ("_law_matched", none) "_law_matched" "_law_matched" s__law_matched, dF ("_law_raw_rule", none) "_law_raw_rule" "_law_raw_rule" s__law_raw_rule, dF ("_law_two", none) "_law_two" "_law_two" s__law_two, dF ("_law_walk", none) "_law_walk" "_law_walk" s__law_walk, dF ("is_walk", none) "is_walk" "is_walk" s_is_walk, dF ("law", none) "law" "law" s_law, dF ("NoHeap", some "__init__") "__init__" "NoHeap.__init__" sI_17, dF ("NotKept", some "__init__") "__init__" "NotKept.__init__" sI_18, dF ("Unmatched", some "__init__") "__init__" "Unmatched.__init__" sI_19, dF ("TooLong", some "__init__") "__init__" "TooLong.__init__" sI_20]
def defsL : List He.DefD := defsL0 ++ defsL1
def tabsL : List He.Tab := []
def addrs : List Addr := (List.range 1100).reverse
abbrev rowO : PySem.W.OpenRow := PySem.W.OpenLaw.row PySem.Challenge.rw_shutpairs_k54_whole_each_walk_leads_back
abbrev hk : PySem.W.Hook := hookW addrs factsL defsL tabsL
def ob (s : PySem.W.SharedT) : He.AlT := obsWG addrs factsL defsL tabsL (HandSHeadRun.getT s)
theorem ob_eq (s : PySem.W.SharedT) : ob s = hk.obs s.abs := obsWG_eq (HandSHeadRun.getT_eq s)
set_option maxHeartbeats 0 in
theorem run0a (w : World) : HandSHeadRun.RunEq rowO (PySem.W.view rowO.prog [69]) (hookW addrs factsL [] tabsL) (obT addrs factsL [] tabsL) 40000 names (w.withFollow "special-get-raises" false) := by
  intro os
  kernel_rfl
set_option maxHeartbeats 0 in
theorem run0b (w : World) : HandSHeadRun.RunEq rowO (PySem.W.view rowO.prog [69]) (hookW addrs [] defsL []) (obT addrs [] defsL []) 40000 names (w.withFollow "special-get-raises" false) := by
  intro os
  kernel_rfl
theorem run0 (w : World) : HandSHeadRun.RunEq rowO (PySem.W.view rowO.prog [69]) hk ob 40000 names (w.withFollow "special-get-raises" false) := runEq_join (run0a w) (run0b w)
set_option maxHeartbeats 0 in
theorem run1a (w : World) : HandSHeadRun.RunEq rowO (PySem.W.view rowO.prog [69]) (hookW addrs factsL [] tabsL) (obT addrs factsL [] tabsL) 40000 names (w.withFollow "special-get-raises" true) := by
  intro os
  kernel_rfl
set_option maxHeartbeats 0 in
theorem run1b (w : World) : HandSHeadRun.RunEq rowO (PySem.W.view rowO.prog [69]) (hookW addrs [] defsL []) (obT addrs [] defsL []) 40000 names (w.withFollow "special-get-raises" true) := by
  intro os
  kernel_rfl
theorem run1 (w : World) : HandSHeadRun.RunEq rowO (PySem.W.view rowO.prog [69]) hk ob 40000 names (w.withFollow "special-get-raises" true) := runEq_join (run1a w) (run1b w)
theorem run (w : World) : HandSHeadRun.RunEq rowO (PySem.W.view rowO.prog [69]) hk ob 40000 names w := PySem.W.byRow2 "special-get-raises" (P := fun w => HandSHeadRun.RunEq rowO (PySem.W.view rowO.prog [69]) hk ob 40000 names w) run0 run1 w
end K54
set_option Elab.async false
set_option linter.all false
set_option maxRecDepth 100000
set_option maxHeartbeats 4000000
/-! tuples whose object is known to have no dict of its own (so that their methods can be called) -/
namespace Dt
open PySem PySem.Spec PyProof.Rows L2
section
variable {X : Cx} {pins : List (Addr × Obj)} {σ : L2.St} {H : Hp} {s : Shared} {Q : VK}
theorem laidF {xs : List V} {its : List Value} (I : Inv X pins σ H s) (r : Vals xs its) (z : xs.length ≤ sizeLine) (h : NewT H Q xs) :
    EP X pins σ Q (.ref s.heap.objs.size) { s with heap := s.heap.push { cls := .type "tuple", data := .seq its.toArray } } := by
  refine ⟨.ref s.heap.objs.size, _, I.laid (t' := s.toks) (o := .frz { cls := .type "tuple", data := .seq its.toArray } (.tup xs)) (fun _ _ => Heap.get?_push_of_some _) (Nat.le_refl _) ?_, rfl, h _ _ (I.hok.fresh (Nat.le_refl _)) rfl⟩
  exact ⟨Heap.get?_push_size _ rfl, z, its, r, IsTup.new _ _⟩
def tTupF (t : TA) : TE := fun σ H Q => t σ H fun xs H1 => xs.length ≤ sizeLine ∧ NewT H1 Q xs
theorem pe_tupF {es : List Expr} {t : TA} {pos : Pos} {x1} (h : PA X es t) : PE X (.Tuple es x1 pos) (tTupF t) := by
  refine ⟨fun pins s σ H Q I hq => wpAny_Tuple_spliced (thn (h.run pos pins s σ H _ I hq) fun us s1 ⟨xs, H1, I1, r, z, q⟩ => ?_)⟩
  exact ⟨by rw [← r.length]; exact z, laidF I1 r z q⟩
/-- tuple(x) of a list, of a tuple -/
theorem call_tupleF : CallR X (.type "tuple") (fun xs H Q => ∃ p ys, xs = [.ref p] ∧ ((SqL X.K H p ys ∧ NewT H Q ys) ∨ (SqT X.K H p ys ∧ Q (.ref p) H))) := by
  intro pins s σ H xs us Q I r h
  obtain ⟨p, ys, rfl, h⟩ := h
  obtain ⟨u, rfl, rx⟩ := vals1 r
  cases rx
  rcases h with ⟨hq, q⟩ | ⟨hq, q⟩
  · obtain ⟨its, rv, pl, hz⟩ := I.list hq
    have hlen := rv.length
    refine call_tuple_list pl.isList (fun h' kp => ?_) (by rw [List.size_toArray]; omega)
    exact laidF (I.kept (t' := s.toks) kp) rv hz q
  · obtain ⟨its, rv, pl, hz⟩ := I.tuple hq
    exact call_tuple_same pl ⟨.ref p, H, I, rfl, q⟩
/-- t + u -/
def rCatF (K : PySem.W.Frag) : R2 := fun x y H Q => ∃ a b xs ys, x = .ref a ∧ y = .ref b ∧ SqT K H a xs ∧ SqT K H b ys ∧ xs.length + ys.length ≤ sizeLine ∧
  (xs = [] → Q (.ref b) H) ∧ (xs ≠ [] → ys = [] → Q (.ref a) H) ∧ (xs ≠ [] → ys ≠ [] → NewT H Q (xs ++ ys))
theorem op_catF : OpR X (binaryOp .Add) (rCatF X.K) := by
  intro pins s σ H x y v u Q I rx ry h
  obtain ⟨a, b, xs, ys, rfl, rfl, ha, hb, hz, q0, q1, q2⟩ := h
  cases rx
  cases ry
  obtain ⟨its, r1, p1, _⟩ := I.tuple ha
  obtain ⟨its2, r2, p2, _⟩ := I.tuple hb
  by_cases hx : xs = []
  · subst hx
    cases r1
    exact cat_tup0 p1 p2 ⟨.ref b, H, I, rfl, q0 rfl⟩
  · refine HT.cat_tup p1 p2 (fun z => hx (r1.nil_iff.mp z)) (fun z => ⟨.ref a, H, I, rfl, q1 hx (r2.nil_iff.mp z)⟩) (fun z => ?_) (by rw [← r1.length, ← r2.length]; exact hz)
    exact laidF I (r1.append r2) (by rw [List.length_append]; exact hz) (q2 hx fun w => z (r2.nil_iff.mpr w))
theorem tuple_mul1 (l : Addr) (items : Array Value) (n : Nat) (dd : Option Addr) (sl : Array (Option Value)) (u : Tok) :
    Meets (Builtin.«tuple.__mul__» ⟨[.ref l, .int 1 u], []⟩) (fun _ R s => s.heap.get? l = some { cls := .type "tuple", dict := dd, data := .seq items n, slots := sl } ∧ R (.ok (.ret (Value.ref l))) s) :=
  .of_wp fun prog w A R s h => by
    obtain ⟨hp, g, d, tk, os⟩ := s
    obtain ⟨hl, h⟩ := h
    have f1 := AutoSeq1.idx_int
    have c0 : (decide ((1 : Int) < -(2 ^ 63)) || decide ((1 : Int) ≥ 2 ^ 63)) = false := by decide
    have c1 : (items.isEmpty || (1 : Int) == 1) = true := by simp
    wp_walk using wpAny_loadPart' hl
    repeat (first
      | (refine wpAny_ite_false (decide_eq_false (by rw [c0]; exact Bool.false_ne_true)) ?_; wp_walk using wpAny_loadPart' hl)
      | (refine wpAny_ite_true (decide_eq_true (by rw [c1])) ?_; wp_walk using wpAny_loadPart' hl))
    exact ⟨_, rfl, h⟩
/-- t * k -/
def rRepTF (K : PySem.W.Frag) : R2 := fun x y H Q => ∃ l k xs, x = .ref l ∧ y = .int k ∧ SqT K H l xs ∧ xs ≠ [] ∧ 1 ≤ k ∧ k ≤ 1000 ∧ xs.length ≤ 1000 ∧ (k = 1 → Q (.ref l) H) ∧ (2 ≤ k → NewT H Q (List.replicate k.toNat xs).flatten)
theorem op_repTF : OpR X (binaryOp .Mult) (rRepTF X.K) := by
  intro pins s σ H x y v u Q I rx ry h
  obtain ⟨l, k, xs, rfl, rfl, hT, hne, k2, k3, hz, q1, q⟩ := h
  cases rx
  obtain ⟨t, rfl⟩ := ry
  obtain ⟨its, r, ⟨⟨cls, od, dt, sl⟩, ho, hc, n, hd⟩, _⟩ := I.tuple hT
  obtain rfl : cls = .type "tuple" := hc
  obtain rfl : dt = .seq its.toArray n := hd
  by_cases hk1 : k = 1
  · subst hk1
    refine wpAny_binaryOp_repeat_ref (T := "tuple") (U := "int") (by decide) ⟨_, ho, rfl⟩ (fun s' => typeIs_int s' 1 t) noFill_tuple_mul F.fills_int_mul F.slot_int_rmul repeat_tuple F.slot_int_index.lookup ?_
    refine call_meets F.slot_int_rmul (typeIs_int s 1 t) F.entry_int_rmul (F.args_int_rmul_2 _ _) (int_rmul_tuple 1 t l its.toArray n od sl) ⟨ho, rfl, ⟨_, ho, rfl⟩, ?_⟩
    exact call_meets F.slot_tuple_mul ⟨_, ho, rfl⟩ F.entry_tuple_mul (F.args_tuple_mul_2 _ _) (tuple_mul1 l its.toArray n od sl t) ⟨ho, .ref l, H, I, rfl, q1 rfl⟩
  have hl : its.toArray.size = xs.length := by rw [List.size_toArray, r.length]
  have hb : k.toNat * xs.length ≤ 1000 * 1000 := Nat.mul_le_mul (by omega) hz
  have hk : ((its.toArray.size : Nat) : Int) * k ≤ 1000000 := by
    have e : ((its.toArray.size : Nat) : Int) * k = ((k.toNat * xs.length : Nat) : Int) := by rw [hl, Int.natCast_mul, Int.toNat_of_nonneg (by omega), Int.mul_comm]
    omega
  have hi : its.toArray.isEmpty = false := by
    cases xs with
    | nil => exact absurd rfl hne
    | cons a b => cases r; rfl
  have hf : (List.replicate k.toNat its).flatten.length ≤ sizeLine := by
    rw [PyProof.Rows.lm_len_rep_flat, r.length.symm, sizeLine_eq]; omega
  have hf' : (List.replicate k.toNat xs).flatten.length ≤ sizeLine := by
    rw [PyProof.Rows.lm_len_rep_flat, sizeLine_eq]; omega
  have w := tuple_mulW l its.toArray n od sl k t (by simp; omega) (by rw [hi]; simp; omega) (by rw [hi]; simp; omega) (by omega) (by unfold Builtin.Tuple.tupleTooMany; rw [sizeLine_eq]; exact decide_eq_false (by omega)) (by rw [size_rep]; exact hf)
  rw [size_rep] at w
  refine wpAny_binaryOp_repeat_ref (T := "tuple") (U := "int") (by decide) ⟨_, ho, rfl⟩ (fun s' => typeIs_int s' k t) noFill_tuple_mul F.fills_int_mul F.slot_int_rmul repeat_tuple F.slot_int_index.lookup ?_
  refine call_meets F.slot_int_rmul (typeIs_int s k t) F.entry_int_rmul (F.args_int_rmul_2 _ _) (int_rmul_tuple k t l its.toArray n od sl) ⟨ho, rfl, ⟨_, ho, rfl⟩, ?_⟩
  exact call_meets F.slot_tuple_mul ⟨_, ho, rfl⟩ F.entry_tuple_mul (F.args_tuple_mul_2 _ _) w ⟨ho, laidF I (r.rep k.toNat) hf' (q (by omega))⟩
/-- t[lo:hi] -/
def rSlF (K : PySem.W.Frag) : V → Option Int → Option Int → Hp → VK → Prop := fun x lo hi H Q => ∃ a xs, x = .ref a ∧ SqT K H a xs ∧
  (HT.sIx xs.length 0 lo = 0 ∧ HT.sIx xs.length xs.length hi = xs.length → Q (.ref a) H) ∧ (¬ (HT.sIx xs.length 0 lo = 0 ∧ HT.sIx xs.length xs.length hi = xs.length) → NewT H Q (cutV xs lo hi))
theorem sl_tupF : SlR X (rSlF X.K) := by
  intro pins s σ H x v vl vu lo hi sl Q I rx hs pl pu h
  obtain ⟨a, xs, rfl, hx, q1, q2⟩ := h
  cases rx
  obtain ⟨its, r, ht, hz⟩ := I.tuple hx
  have hlen : its.toArray.size = xs.length := by rw [List.size_toArray, r.length]
  refine ⟨"tuple", _, PyProof.Rows.slot_tuple_getitem.lookup, ht.typeIs, ?_⟩
  by_cases hw : HT.sIx xs.length 0 lo = 0 ∧ HT.sIx xs.length xs.length hi = xs.length
  · exact getItem_tuple_whole ht hs pl pu (by rw [hlen]; exact hw) ⟨.ref a, H, I, rfl, q1 hw⟩
  · refine HT.getItem_tuple_cut ht hs pl pu (by rw [hlen]; exact hw) ?_ (by rw [hlen]; exact hz)
    rw [hlen]
    exact laidF I ((r.drop _).take _) (Nat.le_trans (cutV_length xs lo hi) hz) (q2 hw)

/-! ### methods of tuples -/
/-- a value of that builtin type, a tuple whose object is known too -/
def tyW (K : PySem.W.Frag) (T : String) (x : V) (H : Hp) : Prop := tyV K T x H ∨ (T = "tuple" ∧ ∃ q o xs, x = .ref q ∧ H q = some (.frz o (.tup xs)) ∧ o.dict = none)
theorem tyW_is {T : String} {x : V} {v : Value} (I : Inv X pins σ H s) (r : RelV x v) (ty : tyW X.K T x H) :
    s.TypeIs v T ∧ ∀ a, v = .ref a → ∃ ob, s.heap.get? a = some ob ∧ ob.dict = none := by
  rcases ty with ty | ⟨rfl, q, o, xs, rfl, e, d⟩
  · exact tyV_is I r ty
  · cases r
    obtain ⟨h1, h2⟩ := I.hok q _ e
    obtain ⟨_, its, _, o', h3, h4, _⟩ := h2
    rw [h1] at h3; cases h3
    exact ⟨⟨o, h1, h4⟩, fun a z => by cases z; exact ⟨o, h1, d⟩⟩
def tBW (K : PySem.W.Frag) (T : String) (r : V → List V → Hp → VK → Prop) (to : TE) (t : TA) : TE := fun σ H Q => to σ H fun x H1 => tyW K T x H1 ∧ t σ H1 fun xs H2 => r x xs H2 Q
variable {o e : Expr} {es : List Expr} {to : TE} {t : TA} {name : Str} {apos cpos : Pos} {T id : String} {r : V → List V → Hp → VK → Prop}
theorem pe_bw (pa : PlainAttrs T) (slot : Slot T name id) (hty : typeOf (.builtin id) = pure (.type "method_descriptor")) (hm : MtR X id r) (ho : PE X o to) (ha : PA X (e :: es) t)
    (hbase : attributeBase o name X.env (eval o X.env) = eval o X.env := by rfl)
    (hfew : ((backTo cpos (starEach (e :: es) X.env)).all (fun x => !x.1) && (backToKw cpos (keywordEach [] X.env)).all (fun x => x.1.isSome)
      && decide ((e :: es).length + ([] : List Keyword).length + (if ([] : List Keyword).isEmpty then 0 else 1) < 30)) = true := by rfl)
    (hline : (apos.endLine == cpos.line) = true := by rfl) (hs : starEach (e :: es) X.env = (false, eval e X.env) :: starEach es X.env := by rfl) (hplain : (backTo cpos (starEach es X.env)).any (·.1) = false := by rfl) :
    PE X (.Call (.Attribute o name apos) (e :: es) [] cpos) (tBW X.K T r to t) := by
  refine ⟨fun pins s σ H Q I h => wpAny_Call_method_late hbase hfew hline rfl (thn (ho.run pins s σ H _ I h) fun v s1 ⟨x, H1, I1, r1, ty, q1⟩ => ?_)⟩
  obtain ⟨h1, h2⟩ := tyW_is I1 r1 ty
  refine ⟨T, id, pa, slot, hty, h1, h2, ?_⟩
  have hA := ha.run cpos pins s1 σ H1 _ I1 q1
  rw [hs] at hA ⊢
  refine Calls.callWith_builtin (by show (false || (backTo cpos (starEach es X.env)).any (·.1)) = false; rw [hplain] <;> rfl) (Calls.evalArgs_plain ?_)
  exact thn hA fun us s2 ⟨vs, H2, I2, r2, q2⟩ => hm pins s2 σ H2 x vs v us Q I2 r1 r2 q2
/-- the receiver's type is known when it is read: one of two -/
def tBW2 (K : PySem.W.Frag) (T T' : String) (r r' : V → List V → Hp → VK → Prop) (to : TE) (t : TA) : TE := fun σ H Q => to σ H fun x H1 => (tyW K T x H1 ∧ t σ H1 fun xs H2 => r x xs H2 Q) ∨ (tyW K T' x H1 ∧ t σ H1 fun xs H2 => r' x xs H2 Q)
theorem pe_bw2 {T' id' : String} {r' : V → List V → Hp → VK → Prop} (pa : PlainAttrs T) (slot : Slot T name id) (hty : typeOf (.builtin id) = pure (.type "method_descriptor")) (hm : MtR X id r)
    (pa' : PlainAttrs T') (slot' : Slot T' name id') (hty' : typeOf (.builtin id') = pure (.type "method_descriptor")) (hm' : MtR X id' r') (ho : PE X o to) (ha : PA X (e :: es) t)
    (hbase : attributeBase o name X.env (eval o X.env) = eval o X.env := by rfl)
    (hfew : ((backTo cpos (starEach (e :: es) X.env)).all (fun x => !x.1) && (backToKw cpos (keywordEach [] X.env)).all (fun x => x.1.isSome)
      && decide ((e :: es).length + ([] : List Keyword).length + (if ([] : List Keyword).isEmpty then 0 else 1) < 30)) = true := by rfl)
    (hline : (apos.endLine == cpos.line) = true := by rfl) (hs : starEach (e :: es) X.env = (false, eval e X.env) :: starEach es X.env := by rfl) (hplain : (backTo cpos (starEach es X.env)).any (·.1) = false := by rfl) :
    PE X (.Call (.Attribute o name apos) (e :: es) [] cpos) (tBW2 X.K T T' r r' to t) := by
  refine ⟨fun pins s σ H Q I h => wpAny_Call_method_late hbase hfew hline rfl (thn (ho.run pins s σ H _ I h) fun v s1 ⟨x, H1, I1, r1, hq⟩ => ?_)⟩
  have pl : (false || (backTo cpos (starEach es X.env)).any (·.1)) = false := by rw [hplain] <;> rfl
  rcases hq with ⟨ty, q1⟩ | ⟨ty, q1⟩
  · obtain ⟨h1, h2⟩ := tyW_is I1 r1 ty
    have hA := ha.run cpos pins s1 σ H1 _ I1 q1
    rw [hs] at hA ⊢
    exact ⟨T, id, pa, slot, hty, h1, h2, Calls.callWith_builtin pl (Calls.evalArgs_plain (thn hA fun us s2 ⟨vs, H2, I2, r2, q2⟩ => hm pins s2 σ H2 x vs v us Q I2 r1 r2 q2))⟩
  · obtain ⟨h1, h2⟩ := tyW_is I1 r1 ty
    have hA := ha.run cpos pins s1 σ H1 _ I1 q1
    rw [hs] at hA ⊢
    exact ⟨T', id', pa', slot', hty', h1, h2, Calls.callWith_builtin pl (Calls.evalArgs_plain (thn hA fun us s2 ⟨vs, H2, I2, r2, q2⟩ => hm' pins s2 σ H2 x vs v us Q I2 r1 r2 q2))⟩
/-- count of plain data -/
def rCount (sq : Addr → List V → Hp → Prop) (K : PySem.W.Frag) : V → List V → Hp → VK → Prop := fun x xs H Q => ∃ (q : Addr) (w : V) (vs : List V) (ds : List PyData) (d : PyData), x = .ref q ∧ xs = [w] ∧ sq q vs H ∧ DpAll K H vs ds ∧ Dp K H w d ∧
  PyData.plainAll ds = true ∧ d.plain = true ∧ d.depth ≤ 50 ∧ Q (.int ((ds.countP fun y => PyData.eqv y d : Nat) : Int)) H
theorem mt_countL (hu : X.A.units + 64 < cLine) : MtR X "list.count" (rCount (fun q vs H => SqL X.K H q vs) X.K) := by
  intro pins s σ H x xs v us Q I rx rxs h
  obtain ⟨q, w, vs, ds, d, rfl, rfl, hs, hd, hw, p1, p2, dp, k⟩ := h
  cases rx
  obtain ⟨u, rfl, ru⟩ := rxs.one
  obtain ⟨its, rv, pl, hz⟩ := I.list hs
  obtain ⟨as, ra⟩ := Dp.readsAll I ds vs its hd rv
  obtain ⟨bs, rb⟩ := Dp.reads I d w u hw ru
  exact SeqAt.count_list_data pl.isList (by simpa using ra) rb p1 p2 (by omega) ⟨.int _, H, I.tok _, ⟨_, rfl⟩, k⟩
theorem mt_countT (hu : X.A.units + 64 < cLine) : MtR X "tuple.count" (rCount (fun q vs H => SqT X.K H q vs) X.K) := by
  intro pins s σ H x xs v us Q I rx rxs h
  obtain ⟨q, w, vs, ds, d, rfl, rfl, hs, hd, hw, p1, p2, dp, k⟩ := h
  cases rx
  obtain ⟨u, rfl, ru⟩ := rxs.one
  obtain ⟨its, rv, pl, hz⟩ := I.tuple hs
  obtain ⟨as, ra⟩ := Dp.readsAll I ds vs its hd rv
  obtain ⟨bs, rb⟩ := Dp.reads I d w u hw ru
  exact SeqAt.count_tuple_data pl (by simpa using ra) rb p1 p2 (by omega) ⟨.int _, H, I.tok _, ⟨_, rfl⟩, k⟩
end
end Dt

/-! sorted of ints, of a list or a tuple, with and without reverse -/
namespace Dt
open PySem PySem.Spec PyProof.Rows L2 SrtO SrtR
section
variable {prog : Program} {w : World} {A : Around} {E : Value → Shared → Prop} {s : Shared}
theorem sorted_seq {l : Addr} {T : String} {o : Obj} {n : Nat} {b : Bool} {vs : List Value} {kw : List (Str × Value)} {ns : List Int} {Q : Value → Shared → Prop}
    (hsrt : ∀ (a : Addr) (s : Shared) (R : PySem.Fin → Shared → Prop) (n : Nat), s.heap.get? a = some (seqObj "list" vs.toArray n) →
      (∀ (out : Array Value) (ns' : List Int), IntsAre out.toList ns' → ns'.Perm ns → OrdB b ns' → R (.done (.ret .none)) { s with heap := sortedHeap s.heap a vs out }) →
      wpAny (model prog w) A.in1.in1 (Builtin.«list.sort» ⟨[.ref a], kw⟩) R (fun e s => E e s) s)
    (ha1 : argsOk "sorted" ⟨[.ref l], kw⟩) (ha2 : ∀ a, argsOk "list.sort" ⟨[a], kw⟩) (hT : T = "list" ∨ T = "tuple") (ho : s.heap.get? l = some o) (hc : o.cls = .type T) (hd : o.data = .seq vs.toArray n) (hz : vs.length ≤ sizeLine)
    (h : ∀ (h1 h' : Heap) (out : Array Value) (ns' : List Int) (e : Nat), (∀ b o', s.heap.get? b = some o' → h1.get? b = some o') → (∀ b o', h1.get? b = some o' → h'.get? b = some o') → h'.get? h1.objs.size = some (seqObj "list" out e) →
      IntsAre out.toList ns' → ns'.Perm ns → OrdB b ns' → Q (.ref h1.objs.size) { s with heap := h' }) :
    wpAny (model prog w) A (call (.builtin "sorted") [.ref l] kw) Q E s := by
  refine call_function_entry_kw kind_sorted plain_sorted entry_sorted ha1 ?_
  unfold Builtin.«sorted»
  refine wpAny_bind (m := checkCount "sorted" 1 1 _) (wpAny_pure ?_)
  refine wpAny_bind (wpAny_collect_seq l hT ho hc hd (fun h1 k1 => ?_) (by simpa using hz))
  have e0 : vs.toArray.toList = vs := by simp
  rw [e0]
  refine wpAny_bind (wpAny_newList ?_ hz)
  have hg : (h1.push (seqObj "list" vs.toArray 0)).get? h1.objs.size = some (seqObj "list" vs.toArray 0) := Heap.get?_push_size _ rfl
  refine wpAny_bind (wpAny_holding (wpAny_call_entry_kw slot_list_sort ⟨_, hg, rfl⟩ entry_list_sort ?_ (ha2 _)))
  refine hsrt h1.objs.size { s with heap := h1.push (seqObj "list" vs.toArray 0) } _ 0 hg fun out ns' i1 i2 i3 => ⟨_, rfl, wpAny_pure ⟨_, rfl, ?_⟩⟩
  obtain ⟨e, he⟩ := sortedHeap_at (vs := vs) (out := out) hg
  refine h h1 _ out ns' e k1 (fun b o' q => ?_) he i1 i2 i3
  have hlt : b < h1.objs.size := Heap.lt_size q
  rw [sortedHeap_old (Nat.ne_of_lt hlt) (by rw [size_push']; exact Nat.lt_succ_of_lt hlt)]
  exact Heap.get?_push_of_some _ q
end
section
variable {X : Cx}
def rSrt (K : PySem.W.Frag) (b : Bool) : List V → Hp → VK → Prop := fun vs H Q => ∃ (a : Addr) (ns : List Int), vs = [V.ref a] ∧ (SqL K H a (ns.map V.int) ∨ SqT K H a (ns.map V.int)) ∧
  ∀ (ns' : List Int) (q : Addr), ns'.Perm ns → OrdB b ns' → H q = none → Q (.ref q) (upd H q (.lst (ns'.map V.int)))
theorem srt_run {b : Bool} {kw : List (Str × Value)} {pins : List (Addr × Obj)} {s : Shared} {σ : L2.St} {H : Hp} {a : Addr} {ns : List Int} {Q : VK} (I : Inv X pins σ H s) (hs : SqL X.K H a (ns.map V.int) ∨ SqT X.K H a (ns.map V.int))
    (hsrt : ∀ (a : Addr) (s : Shared) (R : PySem.Fin → Shared → Prop) (n : Nat) (vs : List Value), IntsAre vs ns → vs.length ≤ sizeLine → s.heap.get? a = some (seqObj "list" vs.toArray n) →
      (∀ (out : Array Value) (ns' : List Int), IntsAre out.toList ns' → ns'.Perm ns → OrdB b ns' → R (.done (.ret .none)) { s with heap := sortedHeap s.heap a vs out }) →
      wpAny (model X.prog X.w) X.A.in1.in1 (Builtin.«list.sort» ⟨[.ref a], kw⟩) R (fun e s => X.xe e s) s)
    (ha1 : argsOk "sorted" ⟨[.ref a], kw⟩) (ha2 : ∀ a, argsOk "list.sort" ⟨[a], kw⟩)
    (q : ∀ (ns' : List Int) (q : Addr), ns'.Perm ns → OrdB b ns' → H q = none → Q (.ref q) (upd H q (.lst (ns'.map V.int)))) : wpAny (model X.prog X.w) X.A (call (.builtin "sorted") [.ref a] kw) (EP X pins σ Q) X.xe s := by
  obtain ⟨T, its, o, n, hT, ho, hc, hd, rv, hz⟩ : ∃ T its o n, (T = "list" ∨ T = "tuple") ∧ s.heap.get? a = some o ∧ o.cls = .type T ∧ o.data = .seq (List.toArray its) n ∧ Vals (ns.map V.int) its ∧ (ns.map V.int).length ≤ sizeLine := by
    rcases hs with hs | hs
    · obtain ⟨its, rv, ⟨o, n, h1, h2, h3, h4⟩, hz⟩ := I.list hs
      exact ⟨"list", its, o, n, .inl rfl, h1, h2, h4, rv, hz⟩
    · obtain ⟨its, rv, ⟨o, h1, h2, n, h4⟩, hz⟩ := I.tuple hs
      exact ⟨"tuple", its, o, n, .inr rfl, h1, h2, h4, rv, hz⟩
  have hi := rv.ints
  have hz' : its.length ≤ sizeLine := by rw [← rv.length]; exact hz
  refine sorted_seq (b := b) (ns := ns) (fun a s R n h1 h2 => hsrt a s R n its hi hz' h1 h2) ha1 ha2 hT ho hc hd hz' fun h1 h' out ns' e k1 k2 hn i1 i2 i3 => ?_
  have hlen : (ns'.map V.int).length ≤ sizeLine := by
    rw [List.length_map, i2.length_eq]
    rw [List.length_map] at hz
    exact hz
  have I1 : Inv X pins σ H { s with heap := h1 } := I.kept (t' := s.toks) k1
  exact ⟨.ref _, upd H h1.objs.size (.lst (ns'.map V.int)), I1.laid (t' := s.toks) k2 (Nat.le_refl _) ⟨hlen, out.toList, e, vals_of_ints i1, hn⟩, rfl, q _ _ i2 i3 (I1.hok.fresh (Nat.le_refl _))⟩
theorem cr_srt : CallR X (.builtin "sorted") (rSrt X.K false) := by
  intro pins s σ H vs us Q I r h
  obtain ⟨a, ns, rfl, hs, q⟩ := h
  obtain rfl := Vals.ref1 r
  refine srt_run (b := false) (kw := []) I hs (fun a s R n vs hi hz ho k => ?_) (args_sorted1 _) (fun _ => args_list_sort _) q
  refine list_sort_ord swo_int ho hz (fun h2 => ints_sortable hi h2) fun out h1 h2 => ?_
  obtain ⟨k1, k2, k3⟩ := ints_out hi h1 h2
  exact k out.toArray _ (by simpa using k1) k2 k3
theorem cr_srtR {b : Bool} : CallRK X (.builtin "sorted") [Str.ofString "reverse"] (fun xs zs H Q => zs = [.bl b] ∧ rSrt X.K b xs H Q) := by
  intro pins s σ H vs zs us ws Q I r rz h
  obtain ⟨rfl, a, ns, rfl, hs, q⟩ := h
  obtain rfl := Vals.ref1 r
  obtain ⟨w1, rfl, e1⟩ := vals1 rz
  obtain rfl : w1 = Value.bool b := e1
  refine srt_run (b := b) I hs (fun a s R n vs hi hz ho k => ?_) (PyProof.Rows.args_sorted_rev _ _) (fun _ => PyProof.Rows.args_list_sort_rev _ _) q
  refine list_sort_ordR swo_int ho hz (fun h2 => ints_sortable hi h2) fun out h1 h2 => ?_
  obtain ⟨ns', k1, k2, k3⟩ := ints_outR hi h1 h2
  exact k _ ns' k1 k2 k3
end
end Dt

namespace Dt
open PySem PySem.Spec PyProof.Rows L2

abbrev noG : V → Nat → Option Addr → Prop := fun _ _ _ => False

section
variable {p : Pm}
mutual
theorem Dd.dp0 {H : Hp} : ∀ {v : V} {d : D}, Dd p H v d → d.canLay0 = true → Dp p.K H v d
  | _, _, .non, _ => .non
  | _, _, .bl b, _ => .bl b
  | _, _, .int i, _ => .int i
  | _, _, .str x, _ => .str x
  | _, _, .lst h hs, c => .lst (SqL.of h) (DdAll.dp0 hs (by simpa [PyData.canLay0] using c))
  | _, _, .tup h z hs, c => .tup (.inl (.inr ⟨_, h⟩)) (DdAll.dp0 hs (by simpa [PyData.canLay0] using c))
  | _, _, .ins _ _ _, c => by simp [PyData.canLay0] at c
  | _, _, .dic _ _, c => by simp [PyData.canLay0] at c
  | _, _, .dicL _ _, c => by simp [PyData.canLay0] at c
  | _, _, .scr _ _, c => by simp [PyData.canLay0] at c
  | _, _, .fn _, c => by simp [PyData.canLay0] at c
theorem DdAll.dp0 {H : Hp} : ∀ {vs : List V} {ds : List D}, DdAll p H vs ds → PyData.canLayAll0 ds = true → DpAll p.K H vs ds
  | _, _, .nil, _ => .nil
  | _, _, .cons h hs, c => by
    have c2 := c
    simp only [PyData.canLayAll0, Bool.and_eq_true] at c2
    exact .cons (Dd.dp0 h c2.1) (DdAll.dp0 hs c2.2)
end
/-- plain data: no instance, no dict within -/
theorem Dd.dp {H : Hp} {v : V} {d : D} (h : Dd p H v d) (s : SeqAt.shaped d = true) : Dp p.K H v d := Dd.dp0 h (SeqAt.canLay_of_shaped s)
theorem DdAll.getV {H : Hp} : ∀ {vs : List V} {ds : List D} {i : Nat} {v : V}, DdAll p H vs ds → vs[i]? = some v → ∃ d, ds[i]? = some d ∧ Dd p H v d
  | _, _, _, _, .nil, h => by simp at h
  | _, _, 0, _, .cons h _, e => by simp at e; subst e; exact ⟨_, rfl, h⟩
  | _, _, i + 1, d, .cons _ hs, e => by
    obtain ⟨v, h1, h2⟩ := DdAll.getV (i := i) hs (by simpa using e)
    exact ⟨v, by simpa using h1, h2⟩
theorem DdAll.ints {H : Hp} : ∀ (ns : List Int), DdAll p H (ns.map V.int) (ns.map PyData.int)
  | [] => .nil
  | n :: ns => .cons (.int n) (DdAll.ints ns)
theorem DdAll.ofInts {H : Hp} : ∀ {vs : List V} {ns : List Int}, DdAll p H vs (ns.map PyData.int) → vs = ns.map V.int
  | _, [], .nil => rfl
  | _, n :: ns, .cons h hs => by
    cases h
    rw [DdAll.ofInts hs]; rfl
theorem DdAll.ofBools {H : Hp} : ∀ {vs : List V} {ns : List Bool}, DdAll p H vs (ns.map PyData.bool) → vs = ns.map V.bl
  | _, [], .nil => rfl
  | _, n :: ns, .cons h hs => by
    cases h
    rw [DdAll.ofBools hs]; rfl
theorem DdAll.ofStrs {H : Hp} : ∀ {vs : List V} {ns : List Str}, DdAll p H vs (ns.map PyData.str) → vs = ns.map V.str
  | _, [], .nil => rfl
  | _, n :: ns, .cons h hs => by
    cases h
    rw [DdAll.ofStrs hs]; rfl
end

section
variable {p : Pm} {F F' : Lab} {I I' H0 H1 H H' : Hp} {σ : L2.St} {v : V} {o : O} {a : Addr} {c : C} {N N' : Addr → Prop}
/-- what nobody has is as it was -/
theorem Own.stay (h : Own p F I H none N a c) (s : Step F I H F' I' H') : Own p F' I' H' none N a c := by
  obtain ⟨fp, h1, h2⟩ := h
  refine ⟨fp, h1.keep (fun b hb => ?_) s.inc, fun b hb => ?_⟩
  · obtain ⟨f, _, _, n⟩ := h2 b hb
    cases q : H b with
    | none => exact absurd q n
    | some o => exact s.keep b o q f
  · obtain ⟨f, i, z, n⟩ := h2 b hb
    refine ⟨?_, ?_, z, s.there b n⟩
    · cases q : F' b with
      | none => rfl
      | some j =>
        rcases s.lab b j q with y | y
        · rw [f] at y; cases y
        · exact absurd y n
    · cases q : I' b with
      | none => rfl
      | some j =>
        rcases s.newI b (by rw [q]; simp) with y | y | y
        · exact absurd i y
        · exact absurd y n
        · exact absurd f y
theorem ResOk.stay (h : ResOk p F I H0 H σ v o) (s : Step F I H F' I' H') : ResOk p F' I' H0 H' σ v o := by
  cases o with
  | d d => exact Dd.mono s.inc h
  | tmp c => obtain ⟨a, e, h⟩ := h; exact ⟨a, e, h.stay s⟩
  | loc j => exact h
  | exc x => obtain ⟨d, g, h⟩ := h; exact ⟨d, g, h.mono s.inc⟩
theorem ResOk.older (h : ResOk p F I H0 H σ v o) (n : ∀ b, H0 b = none → H1 b = none) : ResOk p F I H1 H σ v o := by
  cases o with
  | d d => exact h
  | tmp c => obtain ⟨a, e, h⟩ := h; exact ⟨a, e, h.imp n⟩
  | loc j => exact h
  | exc x => exact h
theorem Step.old (s : Step F I H F' I' H') {b : Addr} (e : H' b = none) : H b = none := by
  cases q : H b with
  | none => rfl
  | some o => exact absurd e (s.there b (by rw [q]; simp))
end

/-! ### readings made of data readings -/
abbrev DE := Rho → (O → Rho → Prop) → (Exn → Rho → Prop) → Prop
abbrev DT := Rho → (Bool → Rho → Prop) → (Exn → Rho → Prop) → Prop
abbrev DA := Rho → (List O → Rho → Prop) → (Exn → Rho → Prop) → Prop
abbrev ResAll (p : Pm) (F : Lab) (I H0 H : Hp) (σ : L2.St) : List V → List O → Prop := Paired (ResOk p F I H0 H σ)
section
variable (p : Pm) (W : WX)
/-- what is to be done with an exception -/
def XEnd (F : Lab) (I H : Hp) (σ : L2.St) (PX : Exn → Rho → Prop) : Prop :=
  ∀ x ρ' cls d F' I' H', PX x ρ' → Step F I H F' I' H' → Rel p F' I' H' σ ρ' → ExOk p I' x cls d → W cls d σ H'
def tE (f : DE) : TE := fun σ H Q => ∃ F I ρ P PX, Rel p F I H σ ρ ∧ f ρ P PX ∧
  (∀ o ρ' v F' I' H', P o ρ' → Step F I H F' I' H' → Rel p F' I' H' σ ρ' → ResOk p F' I' H H' σ v o → Q v H') ∧ XEnd p W F I H σ PX
def tT (f : DT) : TT := fun σ H Q => ∃ F I ρ P PX, Rel p F I H σ ρ ∧ f ρ P PX ∧
  (∀ b ρ' F' I' H', P b ρ' → Step F I H F' I' H' → Rel p F' I' H' σ ρ' → Q b H') ∧ XEnd p W F I H σ PX
def tA (f : DA) : TA := fun σ H Q => ∃ F I ρ P PX, Rel p F I H σ ρ ∧ f ρ P PX ∧
  (∀ os ρ' vs F' I' H', P os ρ' → Step F I H F' I' H' → Rel p F' I' H' σ ρ' → ResAll p F' I' H H' σ vs os → Q vs H') ∧ XEnd p W F I H σ PX
end
section
variable {p : Pm} {W : WX} {F F' : Lab} {I I' H H' : Hp} {σ : L2.St} {PX : Exn → Rho → Prop} {E : DEnds} {D : Ends}
theorem XEnd.later (h : XEnd p W F I H σ PX) (s : Step F I H F' I' H') : XEnd p W F' I' H' σ PX :=
  fun x ρ' cls d F'' I'' H'' p s' r e => h x ρ' cls d F'' I'' H'' p (s.trans s') r e
theorem SEnd.later (h : SEnd p W F I H E D) (s : Step F I H F' I' H') : SEnd p W F' I' H' E D :=
  ⟨fun ρ' σ' F'' I'' H'' p s' r => h.nx ρ' σ' F'' I'' H'' p (s.trans s') r, fun ρ' σ' F'' I'' H'' p s' r => h.bk ρ' σ' F'' I'' H'' p (s.trans s') r, fun ρ' σ' F'' I'' H'' p s' r => h.ct ρ' σ' F'' I'' H'' p (s.trans s') r,
    fun o ρ' v σ' F'' I'' H'' p s' r q => h.rt o ρ' v σ' F'' I'' H'' p (s.trans s') r (q.older fun b e => s.old e), fun x ρ' cls d σ' F'' I'' H'' p s' r e => h.ex x ρ' cls d σ' F'' I'' H'' p (s.trans s') r e⟩
theorem SEnd.xend (h : SEnd p W F I H E D) : XEnd p W F I H σ E.ex := fun x ρ' cls d F'' I'' H'' p s' r e => h.ex x ρ' cls d σ F'' I'' H'' p s' r e
end
/-! ### weaker readings -/
theorem PE.weak {X : Cx} {e : Expr} {t t' : TE} (h : PE X e t) (w : ∀ σ H Q, t' σ H Q → t σ H Q) : PE X e t' := ⟨fun pins s σ H Q I q => h.run pins s σ H Q I (w σ H Q q)⟩
theorem PT.weak {X : Cx} {e : Expr} {t t' : TT} (h : PT X e t) (w : ∀ σ H Q, t' σ H Q → t σ H Q) : PT X e t' := ⟨fun pins s σ H Q I q => h.run pins s σ H Q I (w σ H Q q)⟩
theorem PW.weak {X : Cx} {e : Expr} {t t' : TT} (h : PW X e t) (w : ∀ σ H Q, t' σ H Q → t σ H Q) : PW X e t' := ⟨fun wh pins s σ H Q I q => h.run wh pins s σ H Q I (w σ H Q q)⟩
theorem PA.weak {X : Cx} {es : List Expr} {t t' : TA} (h : PA X es t) (w : ∀ σ H Q, t' σ H Q → t σ H Q) : PA X es t' := ⟨fun pos pins s σ H Q I q => h.run pos pins s σ H Q I (w σ H Q q)⟩
theorem PS.weak {X : Cx} {st : Stmt} {t t' : TS} (h : PS X st t) (w : ∀ D σ H, t' D σ H → t D σ H) : PS X st t' := ⟨fun pins s σ H D I q => h.run pins s σ H D I (w D σ H q)⟩
theorem PSs.weak {X : Cx} {st : List Stmt} {t t' : TS} (h : PSs X st t) (w : ∀ D σ H, t' D σ H → t D σ H) : PSs X st t' := ⟨fun pins s σ H D I q => h.run pins s σ H D I (w D σ H q)⟩
end Dt

namespace Dt
open PySem PySem.Spec PyProof.Rows L2

abbrev PEd (X : Cx) (G : V → Nat → Option Addr → Prop) (W : WX) (e : Expr) (f : DE) : Prop := PE X e (tE (pm X G) W f)
abbrev PTd (X : Cx) (G : V → Nat → Option Addr → Prop) (W : WX) (e : Expr) (f : DT) : Prop := PT X e (tT (pm X G) W f)
abbrev PWd (X : Cx) (G : V → Nat → Option Addr → Prop) (W : WX) (e : Expr) (f : DT) : Prop := PW X e (tT (pm X G) W f)
abbrev PAd (X : Cx) (G : V → Nat → Option Addr → Prop) (W : WX) (es : List Expr) (f : DA) : Prop := PA X es (tA (pm X G) W f)
abbrev PSd (X : Cx) (G : V → Nat → Option Addr → Prop) (W : WX) (s : Stmt) (f : DS) : Prop := PS X s (tS (pm X G) W f)
def vw (ρ : Rho) : O → Option D
  | .d d => some d
  | .tmp (.lst ds) => some (.list ds)
  | .loc j => match cst ρ j with
    | some (.lst ds) => some (.list ds)
    | _ => dat ρ j
  | _ => none
def vw1 (ρ : Rho) (o : O) (k : D → Prop) : Prop := match vw ρ o with
  | some d => k d
  | none => False
def vws (ρ : Rho) : List O → Option (List D)
  | [] => some []
  | o :: os => match vw ρ o with
    | some d => match vws ρ os with
      | some ds => some (d :: ds)
      | none => none
    | none => none
section
variable {p : Pm} {F F' : Lab} {I I' H0 H1 H H' : Hp} {σ : L2.St} {ρ : Rho} {v w : V} {o : O} {d e : D} {c : C}
theorem vw_ok (R : Rel p F I H σ ρ) (r : ResOk p F I H0 H σ v o) (h : vw ρ o = some d) : Dd1 p I H v d := by
  cases o with
  | d d' => unfold vw at h; cases h; exact .inl r
  | tmp c =>
    cases c with
    | lst ds =>
      unfold vw at h; cases h
      obtain ⟨a, e, fp, ⟨_, vs, h1, h2⟩, _⟩ := r
      exact .inr ⟨a, vs, ds, e, rfl, h1, h2⟩
    | _ => cases h
  | loc j =>
    have h : (match Dt.cst ρ j with | some (.lst ds) => some (PyData.list ds) | _ => dat ρ j) = some d := h
    split at h
    · rename_i ds q
      cases h
      obtain ⟨a, e, fp, ⟨_, vs, h1, h2⟩, _⟩ := R.cst r q
      exact .inr ⟨a, vs, ds, e, rfl, h1, h2⟩
    · unfold dat at h
      split at h
      · rename_i q
        cases h
        obtain ⟨u, h1, h2⟩ := R.slot j _ q
        have r : σ[j]? = some (some v) := r
        rw [r] at h1; cases h1
        exact .inl h2
      · cases h
  | exc x => cases h
theorem vws_ok (R : Rel p F I H σ ρ) : ∀ {vs : List V} {os : List O} {ds : List D}, ResAll p F I H0 H σ vs os → vws ρ os = some ds → Paired (Dd1 p I H) vs ds
  | _, _, _, .nil, h => by cases h; exact .nil
  | _, _, _, .cons (a := v) (b := o) r rs, h => by
    unfold vws at h
    split at h
    · rename_i d q
      split at h
      · rename_i ds q2
        cases h
        exact .cons (vw_ok R r q) (vws_ok R rs q2)
      · cases h
    · cases h
theorem sqF {K : PySem.W.Frag} {a : Addr} {b : Obj} {vs : List V} (h : H a = some (.frz b (.tup vs))) : SqT K H a vs := .inl (.inr ⟨b, h⟩)
theorem Dd1.dp (h : Dd1 p I H v d) (s : Same I H) (q : SeqAt.shaped d = true) : Dp p.K H v d := by
  rcases h with h | ⟨a, vs, ds, rfl, rfl, h1, h2⟩
  · exact (h.mono s).dp q
  · refine .lst (SqL.of h1) (DdAll.dp0 (DdAll.mono s h2) ?_)
    have := SeqAt.canLay_of_shaped q
    simpa [PyData.canLay0] using this
theorem Dd1.notNone (h : Dd1 p I H v d) : (v = .non) ↔ (d = .none) := by
  rcases h with h | ⟨a, vs, ds, rfl, rfl, h1, h2⟩
  · cases h <;> simp
  · simp

end

/-! ### names and constants -/
def dVar (i : Nat) : DE := fun ρ P _ => match ρ[i]? with
  | some (some (.d v)) => P (.d v) ρ
  | some (some (.own _)) => P (.loc i) ρ
  | some (some (.lent _ _)) => P (.loc i) ρ
  | some (some (.exc x)) => P (.exc x) ρ
  | _ => False
def dC (v : D) : DE := fun ρ P _ => P (.d v) ρ
section
variable {X : Cx} {G : V → Nat → Option Addr → Prop} {W : WX} {pos : Pos}
theorem e_var {i : Nat} {e : Expr} (h : PE X e (tVar i)) : PEd X G W e (dVar i) := PE.weak h fun σ H Q q => by
  obtain ⟨F, I, ρ, P, PX, R, f, k, _⟩ := q
  have f : (match ρ[i]? with | some (some (.d v)) => P (.d v) ρ | some (some (.own _)) => P (.loc i) ρ | some (some (.lent _ _)) => P (.loc i) ρ | some (some (.exc x)) => P (.exc x) ρ | _ => False) := f
  split at f
  · rename_i v e
    obtain ⟨u, h1, h2⟩ := R.slot _ _ e
    exact ⟨u, h1, k _ _ _ _ _ _ f (Step.refl ..) R h2⟩
  · rename_i c e
    obtain ⟨u, h1, h2⟩ := R.slot _ _ e
    exact ⟨u, h1, k _ _ _ _ _ _ f (Step.refl ..) R h1⟩
  · rename_i a c e
    obtain ⟨u, h1, h2⟩ := R.slot _ _ e
    exact ⟨u, h1, k _ _ _ _ _ _ f (Step.refl ..) R h1⟩
  · rename_i x e
    obtain ⟨u, h1, h2⟩ := R.slot _ _ e
    exact ⟨u, h1, k _ _ _ _ _ _ f (Step.refl ..) R h2⟩
  · exact f.elim
theorem e_const {e : Expr} {v : V} {d : D} (h : PE X e (tC v)) (r : ∀ I, Dd (pm X G) I v d) : PEd X G W e (dC d) := PE.weak h fun σ H Q q => by
  obtain ⟨F, I, ρ, P, PX, R, f, k, _⟩ := q
  exact k _ _ _ _ _ _ f (Step.refl ..) R (r I)
theorem e_int {i : Int} {j} : PEd X G W (.Constant (.int i) j pos) (dC (.int i)) := e_const pe_int fun _ => .int i
theorem e_bl {b j} : PEd X G W (.Constant (.bool b) j pos) (dC (.bool b)) := e_const pe_bl fun _ => .bl b
theorem e_non {j} : PEd X G W (.Constant .none j pos) (dC .none) := e_const pe_non fun _ => .non
end
/-! ### two operands -/
def vw2 (ρ : Rho) (o1 o2 : O) (k : D → D → Prop) : Prop := match vw ρ o1 with
  | some d1 => match vw ρ o2 with
    | some d2 => k d1 d2
    | none => False
  | none => False
theorem vw2_of {ρ : Rho} {o1 o2 : O} {k : D → D → Prop} (h : vw2 ρ o1 o2 k) : ∃ d1 d2, vw ρ o1 = some d1 ∧ vw ρ o2 = some d2 ∧ k d1 d2 := by
  unfold vw2 at h
  split at h
  · split at h
    · exact ⟨_, _, by assumption, by assumption, h⟩
    · exact h.elim
  · exact h.elim
theorem vw1_of {ρ : Rho} {o1 : O} {k : D → Prop} (h : vw1 ρ o1 k) : ∃ d1, vw ρ o1 = some d1 ∧ k d1 := by
  unfold vw1 at h
  split at h
  · exact ⟨_, by assumption, h⟩
  · exact h.elim
abbrev D1 := D → (O → Prop) → Prop
def UnS (p : Pm) (r : V → Hp → VK → Prop) (f : D1) : Prop := ∀ F I H σ ρ v d P Q, Rel p F I H σ ρ → Dd1 p I H v d → f d P → Kont p F I H σ ρ P Q → r v H Q
theorem OpS.or {p : Pm} {r r' : R2} {f f' : D2} (a : OpS p r f) (b : OpS p r' f') : OpS p (fun x y H Q => r x y H Q ∨ r' x y H Q) (fun d e P => f d e P ∨ f' d e P) :=
  fun F I H σ ρ v w d e P Q R h1 h2 h k => h.elim (fun h => .inl (a F I H σ ρ v w d e P Q R h1 h2 h k)) fun h => .inr (b F I H σ ρ v w d e P Q R h1 h2 h k)
def dOp (f : D2) (a b : DE) : DE := fun ρ P PX => a ρ (fun o1 ρ1 => b ρ1 (fun o2 ρ2 => vw2 ρ2 o1 o2 fun d1 d2 => f d1 d2 fun o => P o ρ2) PX) PX
def dUn (f : D1) (a : DE) : DE := fun ρ P PX => a ρ (fun o1 ρ1 => vw1 ρ1 o1 fun d1 => f d1 fun o => P o ρ1) PX
section
variable {p : Pm} {W : WX}
theorem w_op {r : R2} {f : D2} {a b : DE} (hs : OpS p r f) (σ : L2.St) (H : Hp) (Q : VK) (q : tE p W (dOp f a b) σ H Q) : tOp r (tE p W a) (tE p W b) σ H Q := by
  obtain ⟨F, I, ρ, P, PX, R, f1, k, x⟩ := q
  refine ⟨F, I, ρ, _, PX, R, f1, fun o1 ρ1 v F1 I1 H1 f2 s1 R1 r1 => ?_, x⟩
  refine ⟨F1, I1, ρ1, _, PX, R1, f2, fun o2 ρ2 w F2 I2 H2 f3 s2 R2 r2 => ?_, x.later s1⟩
  obtain ⟨d1, d2, e1, e2, f4⟩ := vw2_of f3
  refine hs F2 I2 H2 σ ρ2 v w d1 d2 _ Q R2 (vw_ok R2 (r1.stay s2) e1) (vw_ok R2 r2 e2) f4 fun o v' I' H' h s' R' r' => ?_
  exact k o ρ2 v' F2 I' H' h ((s1.trans s2).trans s') R' (r'.older fun b e => (s1.trans s2).old e)
theorem w_un {r : V → Hp → VK → Prop} {f : D1} {a : DE} (hs : UnS p r f) (σ : L2.St) (H : Hp) (Q : VK) (q : tE p W (dUn f a) σ H Q) : tUn r (tE p W a) σ H Q := by
  obtain ⟨F, I, ρ, P, PX, R, f1, k, x⟩ := q
  refine ⟨F, I, ρ, _, PX, R, f1, fun o1 ρ1 v F1 I1 H1 f2 s1 R1 r1 => ?_, x⟩
  obtain ⟨d1, e1, f4⟩ := vw1_of f2
  refine hs F1 I1 H1 σ ρ1 v d1 _ Q R1 (vw_ok R1 r1 e1) f4 fun o v' I' H' h s' R' r' => ?_
  exact k o ρ1 v' F1 I' H' h (s1.trans s') R' (r'.older fun b e => s1.old e)
end
section
variable {X : Cx} {G : V → Nat → Option Addr → Prop} {W : WX} {pos : Pos} {a b : Expr} {fa fb : DE}
theorem e_op {op : Operator} {r : R2} {f : D2} (ho : OpR X (binaryOp op) r) (hs : OpS (pm X G) r f) (ha : PEd X G W a fa) (hb : PEd X G W b fb) : PEd X G W (.BinOp a op b pos) (dOp f fa fb) := PE.weak (pe_op ho ha hb) (w_op hs)
theorem e_un {op : UnaryOp} {r : V → Hp → VK → Prop} {f : D1} (ho : UnR X (unaryOp op) r) (hs : UnS (pm X G) r f) (ha : PEd X G W a fa) : PEd X G W (.UnaryOp op a pos) (dUn f fa) := PE.weak (pe_un ho ha) (w_un hs)
theorem e_cmp {op : CmpOp} {r : R2} {f : D2} (ho : OpR X (compareOp op) r) (hs : OpS (pm X G) r f) (ha : PEd X G W a fa) (hb : PEd X G W b fb) (hm : behindInMarks op b = false) : PEd X G W (.Compare a [op] [b] pos) (dOp f fa fb) := PE.weak (pe_cmpR ho ha hb hm) (w_op hs)
end
end Dt

namespace Dt
open PySem PySem.Spec PyProof.Rows L2

/-! ### data as lists of ints, of texts -/
def asInts : List D → Option (List Int)
  | [] => some []
  | .int n :: ds => (asInts ds).map (n :: ·)
  | _ :: _ => none
def asStrs : List D → Option (List Str)
  | [] => some []
  | .str n :: ds => (asStrs ds).map (n :: ·)
  | _ :: _ => none
def asBools : List D → Option (List Bool)
  | [] => some []
  | .bool n :: ds => (asBools ds).map (n :: ·)
  | _ :: _ => none
@[simp] theorem asInts_map (ns : List Int) : asInts (ns.map PyData.int) = some ns := by
  induction ns with
  | nil => rfl
  | cons n ns ih => simp [asInts, ih]
@[simp] theorem asStrs_map (ns : List Str) : asStrs (ns.map PyData.str) = some ns := by
  induction ns with
  | nil => rfl
  | cons n ns ih => simp [asStrs, ih]
@[simp] theorem asBools_map (ns : List Bool) : asBools (ns.map PyData.bool) = some ns := by
  induction ns with
  | nil => rfl
  | cons n ns ih => simp [asBools, ih]
theorem asInts_eq : ∀ {ds : List D} {ns : List Int}, asInts ds = some ns → ds = ns.map PyData.int
  | [], ns, h => by simp [asInts] at h; subst h; rfl
  | d :: ds, ns, h => by
    cases d with
    | int n =>
      simp only [asInts, Option.map_eq_some_iff] at h
      obtain ⟨m, h1, h2⟩ := h
      subst h2
      rw [asInts_eq h1]; rfl
    | _ => simp [asInts] at h
theorem asStrs_eq : ∀ {ds : List D} {ns : List Str}, asStrs ds = some ns → ds = ns.map PyData.str
  | [], ns, h => by simp [asStrs] at h; subst h; rfl
  | d :: ds, ns, h => by
    cases d with
    | str n =>
      simp only [asStrs, Option.map_eq_some_iff] at h
      obtain ⟨m, h1, h2⟩ := h
      subst h2
      rw [asStrs_eq h1]; rfl
    | _ => simp [asStrs] at h
theorem asBools_eq : ∀ {ds : List D} {ns : List Bool}, asBools ds = some ns → ds = ns.map PyData.bool
  | [], ns, h => by simp [asBools] at h; subst h; rfl
  | d :: ds, ns, h => by
    cases d with
    | bool n =>
      simp only [asBools, Option.map_eq_some_iff] at h
      obtain ⟨m, h1, h2⟩ := h
      subst h2
      rw [asBools_eq h1]; rfl
    | _ => simp [asBools] at h
@[irreducible] def intsK (ds : List D) (k : List Int → Prop) : Prop := match asInts ds with
  | some ns => k ns
  | none => False
@[irreducible] def strsK (ds : List D) (k : List Str → Prop) : Prop := match asStrs ds with
  | some ns => k ns
  | none => False
@[irreducible] def boolsK (ds : List D) (k : List Bool → Prop) : Prop := match asBools ds with
  | some ns => k ns
  | none => False
@[simp] theorem intsK_map (ns : List Int) (k : List Int → Prop) : intsK (ns.map PyData.int) k = k ns := by unfold intsK; rw [asInts_map]
@[simp] theorem strsK_map (ns : List Str) (k : List Str → Prop) : strsK (ns.map PyData.str) k = k ns := by unfold strsK; rw [asStrs_map]
@[simp] theorem boolsK_map (ns : List Bool) (k : List Bool → Prop) : boolsK (ns.map PyData.bool) k = k ns := by unfold boolsK; rw [asBools_map]
theorem intsK_of {ds : List D} {k : List Int → Prop} (h : intsK ds k) : ∃ ns, ds = ns.map PyData.int ∧ k ns := by
  unfold intsK at h
  split at h
  · exact ⟨_, asInts_eq (by assumption), h⟩
  · exact h.elim
theorem strsK_of {ds : List D} {k : List Str → Prop} (h : strsK ds k) : ∃ ns, ds = ns.map PyData.str ∧ k ns := by
  unfold strsK at h
  split at h
  · exact ⟨_, asStrs_eq (by assumption), h⟩
  · exact h.elim
theorem boolsK_of {ds : List D} {k : List Bool → Prop} (h : boolsK ds k) : ∃ ns, ds = ns.map PyData.bool ∧ k ns := by
  unfold boolsK at h
  split at h
  · exact ⟨_, asBools_eq (by assumption), h⟩
  · exact h.elim

theorem wideB_eq : wideB = 2 ^ wideE := by unfold wideB; rfl
def addD : D2 := fun d e P => match d, e with
  | .int i, .int j => P (.d (.int (i + j)))
  | .list xs, .list ys => xs.length + ys.length ≤ 16000000 ∧ P (.tmp (.lst (xs ++ ys)))
  | .tuple xs, .tuple ys => xs.length + ys.length ≤ 16000000 ∧ P (.d (.tuple (xs ++ ys)))
  | .str x, .str y => x.length + y.length ≤ 16000000 ∧ P (.d (.str (x ++ y)))
  | _, _ => False
def subD : D2 := fun d e P => match d, e with
  | .int i, .int j => P (.d (.int (i - j)))
  | _, _ => False
def mulD : D2 := fun d e P => match d, e with
  | .int i, .int j => mulOk i j ∧ P (.d (.int (i * j)))
  | .list xs, .int k => k < 2 ^ 62 ∧ -(2 ^ 62) < k ∧ xs.length * k.toNat ≤ 16000000 ∧ P (.tmp (.lst (List.replicate k.toNat xs).flatten))
  | .tuple (x :: xs), .int k => (1 ≤ k ∧ k ≤ 1000 ∧ xs.length < 1000) ∧ P (.d (.tuple (List.replicate k.toNat (x :: xs)).flatten))
  | _, _ => False
def modD : D2 := fun d e P => match d, e with
  | .int i, .int j => 0 < j ∧ P (.d (.int (i % j)))
  | _, _ => False
def fdivD : D2 := fun d e P => match d, e with
  | .int i, .int j => (0 < j ∧ j.natAbs < 2 ^ 8000) ∧ P (.d (.int (i / j)))
  | _, _ => False
def shlD : D2 := fun d e P => match d, e with
  | .int i, .int j => (0 ≤ j ∧ j ≤ 1000000 ∧ i.natAbs < 2 ^ 64) ∧ P (.d (.int (i * 2 ^ j.toNat)))
  | _, _ => False
def shrD : D2 := fun d e P => match d, e with
  | .int i, .int j => 0 ≤ j ∧ P (.d (.int (i / 2 ^ j.toNat)))
  | _, _ => False
def negD : D1 := fun d P => match d with
  | .int i => P (.d (.int (-i)))
  | _ => False
section
variable {p : Pm}
theorem s_intOp {f : D2} {g : Int → Int → Int} {C : Int → Int → Prop} (hf : ∀ d e P, f d e P → ∃ i j, d = .int i ∧ e = .int j ∧ C i j ∧ P (.d (.int (g i j)))) : OpS p (rI C fun i j => .int (g i j)) f := by
  intro F I H σ ρ v w d e P Q R h1 h2 h k
  obtain ⟨i, j, rfl, rfl, hc, q⟩ := hf d e P h
  exact ⟨i, j, h1.int, h2.int, hc, k.flat R q (.int _)⟩
theorem s_sub : OpS p (rI0 fun i j => .int (i - j)) subD := by
  intro F I H σ ρ v w d e P Q R h1 h2 h k
  unfold subD at h
  split at h
  · exact ⟨_, _, h1.int, h2.int, k.flat R h (.int _)⟩
  · exact h.elim
abbrev rAddD (K : PySem.W.Frag) : R2 := fun x y H Q => (∃ i j, x = .int i ∧ y = .int j ∧ Q (.int (i + j)) H) ∨ (rCat x y H Q ∨ (rCatF K x y H Q ∨ (∃ i j, x = .str i ∧ y = .str j ∧ i.length + j.length ≤ sizeLine ∧ Q (.str (i ++ j)) H)))
theorem op_addD {X : Cx} : OpR X (binaryOp .Add) (rAddD X.K) := op_add.or (op_cat.or (op_catF.or op_add_str))
theorem DdAll.nil_iff {I : Hp} {vs : List V} {ds : List D} (h : DdAll p I vs ds) : vs = [] ↔ ds = [] := by
  cases h <;> simp
theorem s_add : OpS p (rAddD p.K) addD := by
  intro F I H σ ρ v w d e P Q R h1 h2 h k
  have sl : (sizeLine : Nat) = 16777216 := sizeLine_eq
  unfold addD at h
  split at h
  · exact .inl ⟨_, _, h1.int, h2.int, k.flat R h (.int _)⟩
  · obtain ⟨a, vs, rfl, e1, r1⟩ := h1.list R.sub
    obtain ⟨b, ws, rfl, e2, r2⟩ := h2.list R.sub
    refine .inr (.inl ⟨a, b, vs, ws, rfl, rfl, e1, e2, ?_, fun q n => k.lst R h.2 (r1.append r2) n⟩)
    have := h.1; have := r1.length; have := r2.length; omega
  · obtain ⟨a, o1, vs, rfl, e1, z1, r1⟩ := h1.tuple
    obtain ⟨b, o2, ws, rfl, e2, z2, r2⟩ := h2.tuple
    refine .inr (.inr (.inl ⟨a, b, vs, ws, rfl, rfl, sqF (R.sub _ _ e1), sqF (R.sub _ _ e2), ?_, fun z => ?_, fun _ z => ?_, fun _ _ => k.tup R h.2 (r1.append r2)⟩))
    · have := h.1; have := r1.length; have := r2.length; omega
    · subst z
      cases r1
      exact k.flat R h.2 (Dd.tup e2 z2 r2)
    · subst z
      cases r2
      have q := h.2
      rw [List.append_nil] at q
      exact k.flat R q (Dd.tup e1 z1 r1)
  · exact .inr (.inr (.inr ⟨_, _, h1.str, h2.str, by have := h.1; omega, k.flat R h.2 (.str _)⟩))
  · exact h.elim
abbrev rMulD (K : PySem.W.Frag) : R2 := fun x y H Q => (∃ i j, x = .int i ∧ y = .int j ∧ CMul i j ∧ Q (.int (i * j)) H) ∨ ((∃ i j, x = .int i ∧ y = .int j ∧ CMulW i j ∧ Q (.int (i * j)) H) ∨ (rRep x y H Q ∨ rRepTF K x y H Q))
theorem op_mulD {X : Cx} : OpR X (binaryOp .Mult) (rMulD X.K) := op_mul.or (op_mulW.or (op_rep.or op_repTF))
theorem s_mul : OpS p (rMulD p.K) mulD := by
  intro F I H σ ρ v w d e P Q R h1 h2 h k
  have sl : (sizeLine : Nat) = 16777216 := sizeLine_eq
  unfold mulD at h
  split at h
  · rcases h.1 with c | c | c
    · exact .inl ⟨_, _, h1.int, h2.int, .inl c, k.flat R h.2 (.int _)⟩
    · exact .inl ⟨_, _, h1.int, h2.int, .inr c, k.flat R h.2 (.int _)⟩
    · exact .inr (.inl ⟨_, _, h1.int, h2.int, wide_mul (a := wideE) (b := wideE) (wideB_eq ▸ c.1) (wideB_eq ▸ c.2) (by decide) (by decide) (by decide), k.flat R h.2 (.int _)⟩)
  · obtain ⟨a, vs, rfl, e1, r1⟩ := h1.list R.sub
    obtain ⟨a1, a2, a3, q⟩ := h
    refine .inr (.inr (.inl ⟨a, _, vs, rfl, h2.int, e1, by omega, by omega, ?_, fun x n => k.lst R q (r1.replicate _) n⟩))
    rw [r1.length]; omega
  · obtain ⟨⟨a1, a2, a3⟩, q⟩ := h
    obtain ⟨a, o1, vs, rfl, e1, z1, r1⟩ := h1.tuple
    have hl := r1.length
    simp only [List.length_cons] at hl
    refine .inr (.inr (.inr ⟨a, _, vs, rfl, h2.int, sqF (R.sub _ _ e1), ?_, a1, a2, by omega, fun z => ?_, fun _ => k.tup R q (r1.replicate _)⟩))
    · intro e; rw [e] at hl; simp at hl
    · subst z
      have e2 : ∀ ds : List D, (List.replicate (Int.toNat 1) ds).flatten = ds := fun ds => by simp
      rw [e2] at q
      exact k.flat R q (Dd.tup e1 z1 r1)
  · exact h.elim
theorem s_mod : OpS p (rI (fun _ j => 0 < j) fun i j => .int (i % j)) modD := s_intOp fun d e P h => by
  unfold modD at h
  split at h
  · exact ⟨_, _, rfl, rfl, h.1, h.2⟩
  · exact h.elim
theorem s_fdiv : OpS p (rI CDivW fun i j => .int (i / j)) fdivD := s_intOp fun d e P h => by
  unfold fdivD at h
  split at h
  · exact ⟨_, _, rfl, rfl, wide_div (i := 0) h.1.1 h.1.2 (by omega) (by omega), h.2⟩
  · exact h.elim
theorem s_shl : OpS p (rI CPow fun i j => .int (i * 2 ^ j.toNat)) shlD := s_intOp fun d e P h => by
  unfold shlD at h
  split at h
  · exact ⟨_, _, rfl, rfl, h.1, h.2⟩
  · exact h.elim
theorem s_shr : OpS p (rI (fun _ j => 0 ≤ j) fun i j => .int (i / 2 ^ j.toNat)) shrD := s_intOp fun d e P h => by
  unfold shrD at h
  split at h
  · exact ⟨_, _, rfl, rfl, h.1, h.2⟩
  · exact h.elim
theorem s_neg : UnS p (rU fun i => .int (-i)) negD := by
  intro F I H σ ρ v d P Q R h1 h k
  unfold negD at h
  split at h
  · exact ⟨_, h1.int, k.flat R h (.int _)⟩
  · exact h.elim
end

/-! ### comparisons -/
def eqD : D2 := fun d e P => SeqAt.shaped d = true ∧ SeqAt.shaped e = true ∧ P (.d (.bool (PyData.eqv d e)))
def neD : D2 := fun d e P => SeqAt.shaped d = true ∧ SeqAt.shaped e = true ∧ P (.d (.bool (!PyData.eqv d e)))
def ltD : D2 := fun d e P => match d, e with
  | .int i, .int j => P (.d (.bool (decide (i < j))))
  | .tuple xs, .tuple ys => (SeqAt.shaped (.tuple xs) = true ∧ SeqAt.shaped (.tuple ys) = true ∧ PySem.W.alike (.tuple xs) (.tuple ys) = true ∧ PyData.depth (.tuple xs) ≤ 64) ∧ P (.d (.bool (PySem.W.dataLt (.tuple xs) (.tuple ys))))
  | _, _ => False
def leD : D2 := fun d e P => match d, e with
  | .int i, .int j => P (.d (.bool (decide (i ≤ j))))
  | _, _ => False
def gtD : D2 := fun d e P => match d, e with
  | .int i, .int j => P (.d (.bool (decide (j < i))))
  | .tuple xs, .tuple ys => (SeqAt.shaped (.tuple xs) = true ∧ SeqAt.shaped (.tuple ys) = true ∧ PySem.W.alike (.tuple xs) (.tuple ys) = true ∧ PyData.depth (.tuple xs) ≤ 64) ∧ P (.d (.bool (PySem.W.dataLt (.tuple ys) (.tuple xs))))
  | _, _ => False
def geD : D2 := fun d e P => match d, e with
  | .int i, .int j => P (.d (.bool (decide (j ≤ i))))
  | _, _ => False
def isBl (b : Bool) : D → Bool
  | .bool c => decide (c = b)
  | _ => false
/-- is None | is True | is False (of bools) -/
def isD : D2 := fun d e P => match e with
  | .none => P (.d (.bool (isNone d)))
  | .bool b => P (.d (.bool (isBl b d)))
  | _ => False
def isNotD : D2 := fun d e P => match e with
  | .none => P (.d (.bool (!isNone d)))
  | .bool b => P (.d (.bool (!isBl b d)))
  | _ => False
/-- tuples of ints in a list -/
def asRow : D → Option (List Int)
  | .tuple ds => asInts ds
  | _ => none
def asRows : List D → Option (List (List Int))
  | [] => some []
  | d :: ds => match asRow d, asRows ds with | some h, some hs => some (h :: hs) | _, _ => none
def rowsK (ds : List D) (k : List (List Int) → Prop) : Prop := match asRows ds with | some hs => k hs | none => False
abbrev rowOf (h : List Int) : D := .tuple (h.map PyData.int)
theorem asRow_eq {d : D} {h : List Int} (e : asRow d = some h) : d = rowOf h := by
  unfold asRow at e
  split at e
  · rw [asInts_eq e]
  · cases e
theorem asRows_eq : ∀ {ds : List D} {hs : List (List Int)}, asRows ds = some hs → ds = hs.map rowOf
  | [], hs, e => by cases e; rfl
  | d :: ds, hs, e => by
    unfold asRows at e
    split at e
    · rename_i h hs' e1 e2
      cases e
      rw [asRow_eq e1, asRows_eq e2]
      rfl
    · cases e
theorem asRows_map : ∀ hs : List (List Int), asRows (hs.map rowOf) = some hs
  | [] => rfl
  | h :: hs => by
    have e : asRow (rowOf h) = some h := asInts_map h
    rw [List.map_cons, asRows, e, asRows_map hs]
theorem rowsK_of {ds : List D} {k : List (List Int) → Prop} (h : rowsK ds k) : ∃ hs : List (List Int), ds = hs.map rowOf ∧ k hs := by
  unfold rowsK at h
  split at h
  · rename_i hs e
    exact ⟨hs, asRows_eq e, h⟩
  · exact h.elim
theorem rowsK_in {hs : List (List Int)} {k : List (List Int) → Prop} (h : k hs) : rowsK (hs.map rowOf) k := by
  unfold rowsK
  rw [asRows_map]
  exact h
theorem plain_is : ∀ ns : List Int, PyData.plainAll (ns.map PyData.int) = true
  | [] => rfl
  | n :: ns => by
    have := plain_is ns
    simp [PyData.plainAll, PyData.plain, this]
theorem plain_row (ns : List Int) : PyData.plain (rowOf ns) = true := by
  unfold PyData.plain
  exact plain_is ns
theorem plain_rows : ∀ hs : List (List Int), PyData.plainAll (hs.map rowOf) = true
  | [] => rfl
  | h :: hs => by
    rw [List.map_cons]
    unfold PyData.plainAll
    rw [plain_row, plain_rows hs]
    rfl
theorem depth_row : ∀ a : List Int, PyData.depthAll (a.map PyData.int) ≤ 1
  | [] => by simp [PyData.depthAll]
  | x :: a => by
    have := depth_row a
    simp only [List.map_cons, PyData.depthAll, PyData.depth]
    omega
theorem lay_is : ∀ ns : List Int, PyData.canLayAll0 (ns.map PyData.int) = true
  | [] => by simp [PyData.canLayAll0]
  | n :: ns => by
    have := lay_is ns
    simp [PyData.canLayAll0, PyData.canLay0, this]
theorem lay_row (ns : List Int) : PyData.canLay0 (rowOf ns) = true := by
  unfold PyData.canLay0
  exact lay_is ns
theorem lay_rows : ∀ hs : List (List Int), PyData.canLayAll0 (hs.map rowOf) = true
  | [] => by simp [PyData.canLayAll0]
  | h :: hs => by
    have h1 := lay_row h
    have h2 := lay_rows hs
    rw [List.map_cons]
    unfold PyData.canLayAll0
    rw [h1, h2]
    rfl
theorem depth_rows : ∀ hs : List (List Int), PyData.depthAll (hs.map rowOf) ≤ 2
  | [] => by simp [PyData.depthAll]
  | h :: hs => by
    have h1 := depth_row h
    have h2 := depth_rows hs
    simp only [List.map_cons, PyData.depthAll, PyData.depth]
    omega
theorem shaped_row (ns : List Int) : SeqAt.shaped (rowOf ns) = true := by
  unfold SeqAt.shaped
  have h := depth_row ns
  rw [lay_row, decide_eq_true (by simp only [PyData.depth]; omega)]
  rfl
theorem shaped_rows (hs : List (List Int)) : SeqAt.shaped (.list (hs.map rowOf)) = true := by
  unfold SeqAt.shaped
  have h := depth_rows hs
  have e : PyData.canLay0 (.list (hs.map rowOf)) = true := by
    unfold PyData.canLay0
    exact lay_rows hs
  rw [e, decide_eq_true (by simp only [PyData.depth]; omega)]
  rfl
theorem eqv_rowAll : ∀ a b : List Int, PyData.eqvAll (a.map PyData.int) (b.map PyData.int) = decide (a = b)
  | [], [] => rfl
  | [], y :: b => rfl
  | x :: a, [] => rfl
  | x :: a, y :: b => by
    rw [List.map_cons, List.map_cons]
    unfold PyData.eqvAll
    rw [eqv_rowAll a b]
    by_cases e : x = y
    · subst e; by_cases e2 : a = b <;> simp [PyData.eqv, e2]
    · have : PyData.eqv (.int x) (.int y) = false := by simp [PyData.eqv, e]
      rw [this]; simp [e]
theorem any_rows (ns : List Int) (hs : List (List Int)) : ((hs.map rowOf).any fun y => PyData.eqv y (rowOf ns)) = decide (ns ∈ hs) := by
  rw [List.any_map, Bool.eq_iff_iff, List.any_eq_true]
  constructor
  · rintro ⟨x, hx, e⟩
    have e : PyData.eqv (rowOf x) (rowOf ns) = true := e
    unfold PyData.eqv at e
    rw [eqv_rowAll] at e
    exact decide_eq_true ((of_decide_eq_true e) ▸ hx)
  · intro h
    refine ⟨ns, of_decide_eq_true h, ?_⟩
    show PyData.eqv (rowOf ns) (rowOf ns) = true
    unfold PyData.eqv
    rw [eqv_rowAll]
    exact decide_eq_true rfl
/-- in: ints among ints, texts among texts, one sign in a text -/
def inB (k : Bool → Prop) : D → D → Prop := fun d e => match d, e with
  | .int n, .list ds => intsK ds fun ns => k (decide (n ∈ ns))
  | .int n, .tuple ds => intsK ds fun ns => k (decide (n ∈ ns))
  | .str n, .list ds => strsK ds fun ns => k (decide (n ∈ ns))
  | .str n, .tuple ds => strsK ds fun ns => k (decide (n ∈ ns))
  | .tuple t, .list ds => intsK t fun h => rowsK ds fun hs => k (decide (h ∈ hs))
  | .str n, .str z => (∃ c, n = ⟨#[c]⟩) ∧ k (decide (n.cps[0]! ∈ z.cps.toList))
  | _, _ => False
def inD : D2 := fun d e P => inB (fun b => P (.d (.bool b))) d e
def notInD : D2 := fun d e P => inB (fun b => P (.d (.bool (!b)))) d e
section
variable {p : Pm}
theorem s_eq : OpS p (rEqD p.K) eqD := by
  intro F I H σ ρ v w d e P Q R h1 h2 h k
  exact ⟨d, e, h1.dp R.sub h.1, h2.dp R.sub h.2.1, h.1, h.2.1, k.flat R h.2.2 (.bl _)⟩
theorem s_ne : OpS p (rNeD p.K) neD := by
  intro F I H σ ρ v w d e P Q R h1 h2 h k
  exact ⟨d, e, h1.dp R.sub h.1, h2.dp R.sub h.2.1, h.1, h.2.1, k.flat R h.2.2 (.bl _)⟩
theorem s_cmp {f : D2} {g : Int → Int → Bool} (hf : ∀ d e P, f d e P → ∃ i j, d = .int i ∧ e = .int j ∧ P (.d (.bool (g i j)))) : OpS p (rI0 fun i j => .bl (g i j)) f := by
  intro F I H σ ρ v w d e P Q R h1 h2 h k
  obtain ⟨i, j, rfl, rfl, q⟩ := hf d e P h
  exact ⟨i, j, h1.int, h2.int, k.flat R q (.bl _)⟩
/-- < and > of ints and of tuples -/
def rOrdD (K : PySem.W.Frag) (f : Int → Int → Bool) (g : D → D → Bool) : R2 := fun x y H Q => (∃ i j, x = .int i ∧ y = .int j ∧ Q (.bl (f i j)) H) ∨ (∃ d e, Dp K H x d ∧ Dp K H y e ∧ PySem.W.alike d e = true ∧ d ≠ .none ∧ PyData.depth d ≤ 64 ∧ Q (.bl (g d e)) H)
theorem op_ltD {X : Cx} (hu : X.A.units + 64 < cLine) : OpR X (compareOp .Lt) (rOrdD X.K (fun i j => decide (i < j)) PySem.W.dataLt) := by
  refine OpR.or op_lt (fun pins s σ H x y v u Q I rx ry h => ?_)
  obtain ⟨d, e, h1, h2, h3, h4, h5, q⟩ := h
  obtain ⟨as, r1⟩ := h1.reads I d x v rx
  obtain ⟨bs, r2⟩ := h2.reads I e y u ry
  exact PySem.W.lt_data r1 r2 h3 h4 (by omega) ⟨.bl _, H, I, rfl, q⟩
theorem op_gtD {X : Cx} (hu : X.A.units + 64 < cLine) : OpR X (compareOp .Gt) (rOrdD X.K (fun i j => decide (j < i)) fun d e => PySem.W.dataLt e d) := by
  refine OpR.or op_gt (fun pins s σ H x y v u Q I rx ry h => ?_)
  obtain ⟨d, e, h1, h2, h3, h4, h5, q⟩ := h
  obtain ⟨as, r1⟩ := h1.reads I d x v rx
  obtain ⟨bs, r2⟩ := h2.reads I e y u ry
  exact PySem.W.gt_data r1 r2 h3 h4 (by omega) ⟨.bl _, H, I, rfl, q⟩
theorem s_lt : OpS p (rOrdD p.K (fun i j => decide (i < j)) PySem.W.dataLt) ltD := by
  intro F I H σ ρ v w d e P Q R h1 h2 h k
  unfold ltD at h
  split at h
  · exact .inl ⟨_, _, h1.int, h2.int, k.flat R h (.bl _)⟩
  · obtain ⟨⟨g1, g2, g3, g4⟩, h⟩ := h
    exact .inr ⟨_, _, h1.dp R.sub g1, h2.dp R.sub g2, g3, by simp, g4, k.flat R h (.bl _)⟩
  · exact h.elim
theorem s_gt : OpS p (rOrdD p.K (fun i j => decide (j < i)) fun d e => PySem.W.dataLt e d) gtD := by
  intro F I H σ ρ v w d e P Q R h1 h2 h k
  unfold gtD at h
  split at h
  · exact .inl ⟨_, _, h1.int, h2.int, k.flat R h (.bl _)⟩
  · obtain ⟨⟨g1, g2, g3, g4⟩, h⟩ := h
    exact .inr ⟨_, _, h1.dp R.sub g1, h2.dp R.sub g2, g3, by simp, g4, k.flat R h (.bl _)⟩
  · exact h.elim
theorem s_le : OpS p (rI0 fun i j => .bl (decide (i ≤ j))) leD := s_cmp fun d e P h => by
  unfold leD at h
  split at h
  · exact ⟨_, _, rfl, rfl, h⟩
  · exact h.elim
theorem s_ge : OpS p (rI0 fun i j => .bl (decide (j ≤ i))) geD := s_cmp fun d e P h => by
  unfold geD at h
  split at h
  · exact ⟨_, _, rfl, rfl, h⟩
  · exact h.elim
theorem isNone_eq {I H : Hp} {v : V} {d : D} (h : Dd1 p I H v d) : decide (v = .non) = isNone d := by
  have e := h.notNone
  by_cases hv : v = .non
  · rw [decide_eq_true hv, e.mp hv]; rfl
  · rw [decide_eq_false hv]
    cases d <;> first | rfl | exact absurd (e.mpr rfl) hv
theorem isBl_eq {I H : Hp} {v : V} {d : D} {b : Bool} (h : Dd1 p I H v d) : decide (v = .bl b) = isBl b d := by
  cases d with
  | bool c =>
    rw [h.bool]
    show decide (V.bl c = V.bl b) = decide (c = b)
    by_cases e : c = b
    · simp [e]
    · rw [decide_eq_false e, decide_eq_false fun z => e (V.bl.inj z)]
  | _ =>
    refine decide_eq_false fun z => ?_
    subst z
    rcases h with h | ⟨_, _, _, h, _⟩
    · cases h
    · cases h
/-- x is b: x any thing, b a truth -/
abbrev rIsBW : R2 := fun x y H Q => ∃ b : Bool, y = .bl b ∧ Q (.bl (decide (x = .bl b))) H
abbrev rNotBW : R2 := fun x y H Q => ∃ b : Bool, y = .bl b ∧ Q (.bl (!decide (x = .bl b))) H
theorem plain_bl {x : V} {v : Value} {b : Bool} (r : RelV x v) : plainIs v (.bool b) = true ∧ (v == Value.bool b) = decide (x = .bl b) := by
  cases x with
  | bl c =>
    cases r
    refine ⟨rfl, ?_⟩
    by_cases e : c = b
    · subst e; simp
    · rw [decide_eq_false fun z => e (V.bl.inj z)]
      exact beq_eq_false_iff_ne.mpr fun z => e (Value.bool.inj z)
  | non => cases r; exact ⟨rfl, rfl⟩
  | int i => obtain ⟨t, rfl⟩ := r; exact ⟨rfl, rfl⟩
  | str i => obtain ⟨t, rfl⟩ := r; exact ⟨rfl, rfl⟩
  | byt i => obtain ⟨t, rfl⟩ := r; exact ⟨rfl, rfl⟩
  | flt i => obtain ⟨t, rfl⟩ := r; exact ⟨rfl, rfl⟩
  | ref i => cases r; exact ⟨rfl, rfl⟩
  | ty i => cases r; exact ⟨rfl, rfl⟩
theorem op_isBW {X : Cx} : OpR X (compareOp .Is) rIsBW := by
  intro pins s σ H x y v u Q I rx ry h
  obtain ⟨b, rfl, q⟩ := h
  cases (show u = Value.bool b from ry)
  obtain ⟨h1, h2⟩ := plain_bl (b := b) rx
  exact wpAny_is_plain h1 (by rw [h2]; exact ⟨.bl _, H, I, rfl, q⟩)
theorem op_notBW {X : Cx} : OpR X (compareOp .IsNot) rNotBW := by
  intro pins s σ H x y v u Q I rx ry h
  obtain ⟨b, rfl, q⟩ := h
  cases (show u = Value.bool b from ry)
  obtain ⟨h1, h2⟩ := plain_bl (b := b) rx
  exact wpAny_isNot_plain h1 (by rw [h2]; exact ⟨.bl _, H, I, rfl, q⟩)
abbrev rIsD : R2 := fun x y H Q => (y = .non ∧ Q (.bl (decide (x = .non))) H) ∨ rIsBW x y H Q
abbrev rIsNotD : R2 := fun x y H Q => (y = .non ∧ Q (.bl (!decide (x = .non))) H) ∨ rNotBW x y H Q
theorem op_isD {X : Cx} : OpR X (compareOp .Is) rIsD := op_isN.or op_isBW
theorem op_isNotD {X : Cx} : OpR X (compareOp .IsNot) rIsNotD := op_notN.or op_notBW
theorem s_is : OpS p rIsD isD := by
  intro F I H σ ρ v w d e P Q R h1 h2 h k
  unfold isD at h
  split at h
  · exact .inl ⟨h2.none, by rw [isNone_eq h1]; exact k.flat R h (.bl _)⟩
  · exact .inr ⟨_, h2.bool, by rw [isBl_eq h1]; exact k.flat R h (.bl _)⟩
  · exact h.elim
theorem s_isNot : OpS p rIsNotD isNotD := by
  intro F I H σ ρ v w d e P Q R h1 h2 h k
  unfold isNotD at h
  split at h
  · exact .inl ⟨h2.none, by rw [isNone_eq h1]; exact k.flat R h (.bl _)⟩
  · exact .inr ⟨_, h2.bool, by rw [isBl_eq h1]; exact k.flat R h (.bl _)⟩
  · exact h.elim
theorem inV_ints (n : Int) (ns : List Int) : inV (.int n) (ns.map V.int) = decide (n ∈ ns) := by
  unfold inV
  induction ns with
  | nil => simp
  | cons m ns ih =>
    rw [List.map_cons, List.any_cons, ih]
    show ((m == n) || decide (n ∈ ns)) = _
    by_cases e : m = n
    · subst e; simp
    · have e2 : (m == n) = false := by simpa using e
      rw [e2]
      have e3 : ¬ n = m := fun z => e z.symm
      simp [e3]
theorem inV_strs (n : Str) (ns : List Str) : inV (.str n) (ns.map V.str) = decide (n ∈ ns) := by
  unfold inV
  induction ns with
  | nil => simp
  | cons m ns ih =>
    rw [List.map_cons, List.any_cons, ih]
    show ((m == n) || decide (n ∈ ns)) = _
    by_cases e : m = n
    · subst e; simp
    · have e2 : (m == n) = false := by simpa using e
      rw [e2]
      have e3 : ¬ n = m := fun z => e z.symm
      simp [e3]
theorem flat_ints (ns : List Int) : (ns.map V.int).all flatV = true := by simp [List.all_eq_true, flatV]
theorem flat_strs (ns : List Str) : (ns.map V.str).all flatV = true := by simp [List.all_eq_true, flatV]
def rInData (K : PySem.W.Frag) (neg : Bool) : R2 := fun x y H Q => ∃ (d : D) (xs : List D), Dp K H x d ∧ Dp K H y (.list xs) ∧ PyData.plainAll xs = true ∧ d.plain = true ∧ d.depth ≤ 50 ∧ Q (.bl (if neg then !(xs.any fun y => PyData.eqv y d) else xs.any fun y => PyData.eqv y d)) H
theorem op_in_data {X : Cx} (hu : X.A.units + 64 < cLine) : OpR X (compareOp .In) (rInData X.K false) := by
  intro pins s σ H x y v u Q I rx ry h
  obtain ⟨d, xs, hx, hy, p1, p2, dp, k⟩ := h
  obtain ⟨as, ra⟩ := Dp.reads I (.list xs) y u hy ry
  obtain ⟨bs, rb⟩ := Dp.reads I d x v hx rx
  exact SeqAt.in_list_data ra rb p1 p2 (by omega) ⟨.bl _, H, I, rfl, k⟩
theorem op_notIn_data {X : Cx} (hu : X.A.units + 64 < cLine) : OpR X (compareOp .NotIn) (rInData X.K true) := by
  intro pins s σ H x y v u Q I rx ry h
  obtain ⟨d, xs, hx, hy, p1, p2, dp, k⟩ := h
  obtain ⟨as, ra⟩ := Dp.reads I (.list xs) y u hy ry
  obtain ⟨bs, rb⟩ := Dp.reads I d x v hx rx
  exact SeqAt.notIn_list_data ra rb p1 p2 (by omega) ⟨.bl _, H, I, rfl, k⟩
abbrev rInD (K : PySem.W.Frag) (neg : Bool) : R2 := fun x y H Q => rInData K neg x y H Q ∨ rIn K neg x y H Q ∨ (∃ (c : Nat) (z : Str), x = .str ⟨#[c]⟩ ∧ y = .str z ∧ Q (.bl (if neg then !decide (c ∈ z.cps.toList) else decide (c ∈ z.cps.toList))) H)
theorem op_inD {X : Cx} (hu : X.A.units + 64 < cLine) : OpR X (compareOp .In) (rInD X.K false) := (op_in_data hu).or (op_in_seq.or op_in_sign)
theorem op_notInD {X : Cx} (hu : X.A.units + 64 < cLine) : OpR X (compareOp .NotIn) (rInD X.K true) := (op_notIn_data hu).or (op_notIn_seq.or op_notIn_sign)
theorem s_in0 {neg : Bool} {f : D2} (hf : ∀ d e P, f d e P → inB (fun b => P (.d (.bool (if neg then !b else b)))) d e) : OpS p (rInD p.K neg) f := by
  intro F I H σ ρ v w d e P Q R h1 h2 h k
  have h := hf d e P h
  have fin : ∀ (c : Bool), P (.d (.bool (if neg = true then !c else c))) → Q (.bl (if neg = true then !c else c)) H := fun c q => k.flat R q (.bl _)
  unfold inB at h
  split at h
  · obtain ⟨ns, rfl, q⟩ := intsK_of h
    obtain ⟨b, ws, rfl, e2, r2⟩ := h2.list R.sub
    rw [r2.ofInts] at e2
    exact .inr (.inl ⟨b, _, rfl, .inl (SqL.of e2), by rw [h1.int]; rfl, flat_ints _, by rw [h1.int, inV_ints]; exact fin _ q⟩)
  · obtain ⟨ns, rfl, q⟩ := intsK_of h
    obtain ⟨b, o2, ws, rfl, e2, _, r2⟩ := h2.tuple
    rw [r2.ofInts] at e2
    exact .inr (.inl ⟨b, _, rfl, .inr (sqF (R.sub _ _ e2)), by rw [h1.int]; rfl, flat_ints _, by rw [h1.int, inV_ints]; exact fin _ q⟩)
  · obtain ⟨ns, rfl, q⟩ := strsK_of h
    obtain ⟨b, ws, rfl, e2, r2⟩ := h2.list R.sub
    rw [r2.ofStrs] at e2
    exact .inr (.inl ⟨b, _, rfl, .inl (SqL.of e2), by rw [h1.str]; rfl, flat_strs _, by rw [h1.str, inV_strs]; exact fin _ q⟩)
  · obtain ⟨ns, rfl, q⟩ := strsK_of h
    obtain ⟨b, o2, ws, rfl, e2, _, r2⟩ := h2.tuple
    rw [r2.ofStrs] at e2
    exact .inr (.inl ⟨b, _, rfl, .inr (sqF (R.sub _ _ e2)), by rw [h1.str]; rfl, flat_strs _, by rw [h1.str, inV_strs]; exact fin _ q⟩)
  · obtain ⟨ns, rfl, h7⟩ := intsK_of h
    obtain ⟨hs, rfl, q⟩ := rowsK_of h7
    refine .inl ⟨_, _, h1.dp R.sub (shaped_row ns), h2.dp R.sub (shaped_rows hs), plain_rows hs, plain_row ns, ?_, ?_⟩
    · have := depth_row ns
      simp only [PyData.depth]; omega
    · rw [any_rows]
      exact fin _ q
  · obtain ⟨⟨c, rfl⟩, q⟩ := h
    exact .inr (.inr ⟨c, _, h1.str, h2.str, fin _ q⟩)
  · exact h.elim
theorem s_in : OpS p (rInD p.K false) inD := s_in0 fun d e P h => by simpa [inD] using h
theorem s_notIn : OpS p (rInD p.K true) notInD := s_in0 fun d e P h => by simpa [notInD] using h
end
end Dt

namespace Dt
open PySem PySem.Spec PyProof.Rows L2

/-! ### truth -/
def truD (k : Bool → Prop) : D → Prop
  | .none => k false
  | .bool b => k b
  | .int i => k (i != 0)
  | .str s => s.length ≤ 16000000 ∧ k (s.length != 0)
  | .list ds => k (!ds.isEmpty)
  | .tuple ds => k (!ds.isEmpty)
  | .dict ((.none, .none) :: ds) => k (!ds.isEmpty)
  | .dict _ => False
def truK (ρ : Rho) (o : O) (k : Bool → Prop) : Prop := match vw ρ o with
  | some d => truD k d
  | none => match o with
    | .tmp (.dic kvs) => k (!kvs.isEmpty)
    | .loc j => (match cst ρ j with
      | some (.dic kvs) => k (!kvs.isEmpty)
      | _ => False)
    | _ => False
def dTru (f : DE) : DT := fun ρ P PX => f ρ (fun o ρ1 => truK ρ1 o fun b => P b ρ1) PX
def dBl (f : DE) : DT := fun ρ P PX => f ρ (fun o ρ1 => match o with
  | .d (.bool b) => P b ρ1
  | _ => False) PX
section
variable {p : Pm} {F F' : Lab} {I I' H0 H1 H H' : Hp} {σ : L2.St} {ρ : Rho} {v w : V} {o : O} {d e : D} {c : C} {W : WX}
theorem DdAll.isEmpty {vs : List V} {ds : List D} (h : DdAll p I vs ds) : vs.isEmpty = ds.isEmpty := by cases h <;> rfl
theorem KD.isEmpty {κ : Type} {vs : List (κ × V)} {ds : List (κ × D)} (h : KD p I vs ds) : vs.isEmpty = ds.isEmpty := by cases h <;> rfl
theorem kv_empty {vs : List (Key × V)} {ds : List (D × D)} (h : DdKv p I vs ds) : vs.isEmpty = ds.isEmpty := by cases h <;> rfl
theorem truD_ok {k : Bool → Prop} (s : Same I H) (h : Dd1 p I H v d) (t : truD k d) : ∃ b, TruV p.K v H b ∧ k b := by
  have sl : (sizeLine : Nat) = 16777216 := sizeLine_eq
  cases d with
  | none => rw [h.none]; exact ⟨_, rfl, t⟩
  | bool b => rw [h.bool]; exact ⟨_, rfl, t⟩
  | int i => rw [h.int]; exact ⟨_, rfl, t⟩
  | str x =>
    rw [h.str]
    refine ⟨_, ⟨by have := t.1; omega, ?_⟩, t.2⟩
    rw [Bool.eq_iff_iff, bne_iff_ne, bne_iff_ne]
    omega
  | list ds => obtain ⟨a, vs, rfl, e, r⟩ := h.list s; exact ⟨_, .inl ⟨vs, SqL.of e, by rw [r.isEmpty]⟩, t⟩
  | tuple ds => obtain ⟨a, o, vs, rfl, e, z, r⟩ := h.tuple; exact ⟨_, .inr (.inl ⟨vs, sqF (s _ _ e), by rw [r.isEmpty]⟩), t⟩
  | dict kvs =>
    unfold truD at t
    split at t <;> first | (rename_i q; cases q; done) | skip
    · rename_i ds q
      cases q
      rcases h with h | ⟨_, _, _, _, h, _⟩
      · cases h with
        | dic e r => exact ⟨_, .inr (.inr ⟨_, s _ _ e, by rw [kv_empty r]⟩), t⟩
      · cases h
    · exact t.elim
theorem truK_ok {k : Bool → Prop} (R : Rel p F I H σ ρ) (r : ResOk p F I H0 H σ v o) (t : truK ρ o k) : ∃ b, TruV p.K v H b ∧ k b := by
  unfold truK at t
  split at t
  · exact truD_ok R.sub (vw_ok R r (by assumption)) t
  · split at t
    · obtain ⟨a, rfl, fp, ⟨_, kv, e, q⟩, _⟩ := r
      exact ⟨_, .inr (.inr ⟨kv, e, by rw [q.isEmpty]⟩), t⟩
    · split at t
      · rename_i e
        obtain ⟨a, rfl, fp, ⟨_, kv, e, q⟩, _⟩ := R.cst r e
        exact ⟨_, .inr (.inr ⟨kv, e, by rw [q.isEmpty]⟩), t⟩
      · exact t.elim
    · exact t.elim
theorem w_tru {f : DE} (σ : L2.St) (H : Hp) (Q : Bool → Hp → Prop) (q : tT p W (dTru f) σ H Q) : tE p W f σ H fun x H' => ∃ k, TruV p.K x H' k ∧ Q k H' := by
  obtain ⟨F, I, ρ, P, PX, R, f1, k, x⟩ := q
  refine ⟨F, I, ρ, _, PX, R, f1, fun o1 ρ1 v F1 I1 H1 f2 s1 R1 r1 => ?_, x⟩
  obtain ⟨b, h1, h2⟩ := truK_ok R1 r1 f2
  exact ⟨b, h1, k b ρ1 F1 I1 H1 h2 s1 R1⟩
theorem w_bl {f : DE} {t : TE} (h : ∀ σ H Q, tE p W f σ H Q → t σ H Q) (σ : L2.St) (H : Hp) (Q : Bool → Hp → Prop) (q : tT p W (dBl f) σ H Q) : tTest t σ H Q := by
  obtain ⟨F, I, ρ, P, PX, R, f1, k, x⟩ := q
  refine h σ H _ ⟨F, I, ρ, _, PX, R, f1, fun o1 ρ1 v F1 I1 H1 f2 s1 R1 r1 => ?_, x⟩
  split at f2
  · cases r1
    exact ⟨_, rfl, k _ ρ1 F1 I1 H1 f2 s1 R1⟩
  · exact f2.elim
end
def dNotT (t : DT) : DT := fun ρ P PX => t ρ (fun b ρ1 => P (!b) ρ1) PX
def dAndT (a b : DT) : DT := fun ρ P PX => a ρ (fun c ρ1 => (c = true → b ρ1 P PX) ∧ (c = false → P false ρ1)) PX
def dOrT (a b : DT) : DT := fun ρ P PX => a ρ (fun c ρ1 => (c = true → P true ρ1) ∧ (c = false → b ρ1 P PX)) PX
def blK (o : O) (k : Bool → Prop) : Prop := match o with
  | .d (.bool c) => k c
  | _ => False
def dAndV (a b : DE) : DE := fun ρ P PX => a ρ (fun o ρ1 => blK o fun c => (c = true → b ρ1 P PX) ∧ (c = false → P (.d (.bool false)) ρ1)) PX
def dNotV (a : DE) : DE := fun ρ P PX => a ρ (fun o ρ1 => blK o fun c => P (.d (.bool (!c))) ρ1) PX
theorem blK_of {o : O} {k : Bool → Prop} (h : blK o k) : ∃ c, o = .d (.bool c) ∧ k c := by
  unfold blK at h
  split at h
  · exact ⟨_, rfl, h⟩
  · exact h.elim
section
variable {p : Pm} {W : WX}
theorem w_notT {t : DT} (σ : L2.St) (H : Hp) (Q : Bool → Hp → Prop) (q : tT p W (dNotT t) σ H Q) : tNot (tT p W t) σ H Q := by
  obtain ⟨F, I, ρ, P, PX, R, f1, k, x⟩ := q
  exact ⟨F, I, ρ, _, PX, R, f1, fun c ρ1 F1 I1 H1 f2 s1 R1 => k (!c) ρ1 F1 I1 H1 f2 s1 R1, x⟩
theorem w_andT {a b : DT} (σ : L2.St) (H : Hp) (Q : Bool → Hp → Prop) (q : tT p W (dAndT a b) σ H Q) : tAnd (tT p W a) (tT p W b) σ H Q := by
  obtain ⟨F, I, ρ, P, PX, R, f1, k, x⟩ := q
  refine ⟨F, I, ρ, _, PX, R, f1, fun c ρ1 F1 I1 H1 f2 s1 R1 => ?_, x⟩
  cases c with
  | true => exact iteT ⟨F1, I1, ρ1, P, PX, R1, f2.1 rfl, fun b ρ' F' I' H' h s' R' => k b ρ' F' I' H' h (s1.trans s') R', x.later s1⟩
  | false => exact iteF (k false ρ1 F1 I1 H1 (f2.2 rfl) s1 R1)
theorem w_orT {a b : DT} (σ : L2.St) (H : Hp) (Q : Bool → Hp → Prop) (q : tT p W (dOrT a b) σ H Q) : tOr (tT p W a) (tT p W b) σ H Q := by
  obtain ⟨F, I, ρ, P, PX, R, f1, k, x⟩ := q
  refine ⟨F, I, ρ, _, PX, R, f1, fun c ρ1 F1 I1 H1 f2 s1 R1 => ?_, x⟩
  cases c with
  | true => exact iteT (k true ρ1 F1 I1 H1 (f2.1 rfl) s1 R1)
  | false => exact iteF ⟨F1, I1, ρ1, P, PX, R1, f2.2 rfl, fun b ρ' F' I' H' h s' R' => k b ρ' F' I' H' h (s1.trans s') R', x.later s1⟩
theorem Rtrans {F F1 : Lab} {I I1 H H1 : Hp} {σ : L2.St} {P : O → Rho → Prop} {Q : VK} (s1 : Step F I H F1 I1 H1)
    (k : ∀ o ρ' v F' I' H', P o ρ' → Step F I H F' I' H' → Rel p F' I' H' σ ρ' → ResOk p F' I' H H' σ v o → Q v H') :
    ∀ o ρ' v F' I' H', P o ρ' → Step F1 I1 H1 F' I' H' → Rel p F' I' H' σ ρ' → ResOk p F' I' H1 H' σ v o → Q v H' :=
  fun o ρ' v F' I' H' h s' R' r' => k o ρ' v F' I' H' h (s1.trans s') R' (r'.older fun b e => s1.old e)
theorem w_andV {a b : DE} (σ : L2.St) (H : Hp) (Q : VK) (q : tE p W (dAndV a b) σ H Q) : tAndV (tE p W a) (tE p W b) σ H Q := by
  obtain ⟨F, I, ρ, P, PX, R, f1, k, x⟩ := q
  refine ⟨F, I, ρ, _, PX, R, f1, fun o ρ1 v F1 I1 H1 f2 s1 R1 r1 => ?_, x⟩
  obtain ⟨c, rfl, f2⟩ := blK_of f2
  cases r1
  refine ⟨c, rfl, ?_⟩
  cases c with
  | true => exact iteT ⟨F1, I1, ρ1, P, PX, R1, f2.1 rfl, Rtrans s1 k, x.later s1⟩
  | false => exact iteF (k _ ρ1 _ F1 I1 H1 (f2.2 rfl) s1 R1 (Dd.bl _))
theorem w_notV {a : DE} (σ : L2.St) (H : Hp) (Q : VK) (q : tE p W (dNotV a) σ H Q) : tNotV (tE p W a) σ H Q := by
  obtain ⟨F, I, ρ, P, PX, R, f1, k, x⟩ := q
  refine ⟨F, I, ρ, _, PX, R, f1, fun o ρ1 v F1 I1 H1 f2 s1 R1 r1 => ?_, x⟩
  obtain ⟨c, rfl, f2⟩ := blK_of f2
  cases r1
  exact ⟨c, rfl, k _ ρ1 _ F1 I1 H1 f2 s1 R1 (Dd.bl _)⟩
end
section
variable {X : Cx} {G : V → Nat → Option Addr → Prop} {W : WX} {pos : Pos} {a b c : Expr} {fa fb fc : DE} {ta tb : DT} {rest : List Expr}
theorem t_tru (ha : PEd X G W a fa) (he : ∀ whole, isTrue a X.env whole = (do let v ← whole; standAt a.pos; holding [v] (truthy v)) := by intro _; rfl) : PTd X G W a (dTru fa) := PT.weak (pt_truth ha he) w_tru
theorem t_cmp {op : CmpOp} {r : R2} {f : D2} (ho : OpR X (compareOp op) r) (hs : OpS (pm X G) r f) (ha : PEd X G W a fa) (hb : PEd X G W b fb) (hm : behindInMarks op b = false) : PTd X G W (.Compare a [op] [b] pos) (dBl (dOp f fa fb)) := PT.weak (pt_cmpR ho ha hb hm) (w_bl (w_op hs))
theorem t_not (ha : PTd X G W a ta) : PTd X G W (.UnaryOp .Not a pos) (dNotT ta) := PT.weak (pt_not ha) w_notT
theorem t_and1 (ha : PTd X G W a ta) : PWd X G W (.BoolOp .And [a] pos) ta := pw_and1 ha
theorem t_or1 (ha : PTd X G W a ta) : PWd X G W (.BoolOp .Or [a] pos) ta := pw_or1 ha
theorem t_and (ha : PTd X G W a ta) (hb : PWd X G W (.BoolOp .And (b :: rest) pos) tb) : PWd X G W (.BoolOp .And (a :: b :: rest) pos) (dAndT ta tb) := PW.weak (pw_and ha hb) w_andT
theorem t_or (ha : PTd X G W a ta) (hb : PWd X G W (.BoolOp .Or (b :: rest) pos) tb) : PWd X G W (.BoolOp .Or (a :: b :: rest) pos) (dOrT ta tb) := PW.weak (pw_or ha hb) w_orT
theorem e_one {op} (h : PEd X G W a fa) : PEd X G W (.BoolOp op [a] pos) fa := pe_one h
theorem e_and (ha : PEd X G W a fa) (hb : PEd X G W (.BoolOp .And (b :: rest) pos) fb) : PEd X G W (.BoolOp .And (a :: b :: rest) pos) (dAndV fa fb) := PE.weak (pe_and ha hb) w_andV
theorem e_not (ha : PEd X G W a fa) : PEd X G W (.UnaryOp .Not a pos) (dNotV fa) := PE.weak (pe_not ha) w_notV
end
def frzK (ρ : Rho) (o : O) (k : D → Rho → Prop) : Prop := match frz ρ o with
  | some (d, ρ') => k d ρ'
  | none => False
def dFrz (f : DE) : DE := fun ρ P PX => f ρ (fun o ρ1 => frzK ρ1 o fun d ρ2 => P (.d d) ρ2) PX
section
variable {p : Pm} {F F' F0 : Lab} {I I' I0 H0 H1 H H' : Hp} {σ : L2.St} {ρ ρ' : Rho} {v w : V} {o : O} {d e : D} {c : C} {W : WX}
theorem Rel.lt {j : Nat} {s : S} (R : Rel p F I H σ ρ) (h : ρ[j]? = some (some s)) : j < ρ.length := (List.getElem?_eq_some_iff.mp h).1
/-- an object of nobody's, or of slot j's, is from now on data -/
theorem freezeAt {a : Addr} {vs : List V} {ds : List D} (R : Rel p F I H σ ρ) (h : H a = some (.lst vs)) (hi : I a = none) (r : DdAll p I vs ds) :
    Same I (upd I a (.lst vs)) ∧ Same (upd I a (.lst vs)) H ∧ Dd p (upd I a (.lst vs)) (.ref a) (.list ds) := by
  have s1 : Same I (upd I a (.lst vs)) := same_upd hi
  refine ⟨s1, fun b y e => ?_, .lst upd_same (DdAll.mono s1 r)⟩
  by_cases hb : b = a
  · subst hb; rw [upd_same] at e; cases e; exact h
  · rw [upd_ne hb] at e; exact R.sub b y e
theorem freeze (S : Step F0 I0 H0 F I H) (R : Rel p F I H σ ρ) (r : ResOk p F I H0 H σ v o) (h : frz ρ o = some (d, ρ')) :
    ∃ F' I', Step F0 I0 H0 F' I' H ∧ Rel p F' I' H σ ρ' ∧ Dd p I' v d := by
  cases o with
  | d d' => cases h; exact ⟨F, I, S, R, r⟩
  | exc x => cases h
  | tmp c =>
    cases c with
    | lst ds =>
      cases h
      obtain ⟨a, rfl, fp, ⟨rfl, vs, e, q⟩, hf⟩ := r
      obtain ⟨f1, f2, f3, f4⟩ := hf a (by simp)
      obtain ⟨s1, s2, s3⟩ := freezeAt R e f2 q
      have hne : ∀ b, (∃ j, F b = some j) → b ≠ a := fun b ⟨j, z⟩ q => by rw [q, f1] at z; cases z
      refine ⟨F, upd I a (.lst vs), ⟨S.keep, fun b y z => s1 _ _ (S.inc b y z), fun b z => ?_, S.lab, S.there⟩, ⟨s2, fun b j z => ?_, R.len, fun i sl z => ?_⟩, s3⟩
      · by_cases hb : b = a
        · subst hb; exact .inr (.inl f3)
        · rw [upd_ne hb] at z; exact S.newI b z
      · rw [upd_ne (hne b ⟨j, z⟩)]; exact R.lab b j z
      · obtain ⟨u, h1, h2⟩ := R.slot i sl z
        have own : ∀ {b : Addr} {c : C}, Own p F I H (some i) (fun _ => True) b c → Own p F (upd I a (.lst vs)) H (some i) (fun _ => True) b c := fun {b c} ⟨fp, g1, g2⟩ =>
          ⟨fp, g1.keep (fun _ _ => rfl) s1, fun x hx => ⟨(g2 x hx).1, by rw [upd_ne (hne x ⟨i, (g2 x hx).1⟩)]; exact (g2 x hx).2.1, trivial, (g2 x hx).2.2.2⟩⟩
        refine ⟨u, h1, ?_⟩
        cases sl with
        | d d => exact Dd.mono s1 h2
        | own c => obtain ⟨b, e, h2⟩ := h2; exact ⟨b, e, own h2⟩
        | lent b c => exact ⟨h2.1, own h2.2⟩
        | exc x => obtain ⟨d, g, h2⟩ := h2; exact ⟨d, g, h2.mono s1⟩
    | _ => cases h
  | loc j =>
    have h : (match ρ[j]? with | some (some (.own (.lst ds))) => some (PyData.list ds, ρ.set j (some (.d (.list ds)))) | some (some (.d d)) => some (d, ρ) | _ => none) = some (d, ρ') := h
    split at h
    rotate_left
    · rename_i d0 q0
      cases h
      obtain ⟨u, h1, h2⟩ := R.slot j _ q0
      have r : σ[j]? = some (some v) := r
      rw [r] at h1; cases h1
      exact ⟨F, I, S, R, h2⟩
    rotate_left
    · rename_i ds q0
      cases h
      obtain ⟨u, h1, a, rfl, fp, ⟨rfl, vs, e, q⟩, hf⟩ := R.slot j _ q0
      have hv : v = .ref a := by
        have r : σ[j]? = some (some v) := r
        rw [r] at h1; cases h1; rfl
      subst hv
      obtain ⟨f1, f2, f3, f4⟩ := hf a (by simp)
      obtain ⟨s1, s2, s3⟩ := freezeAt R e f2 q
      let F2 : Lab := fun b => if F b = some j then none else F b
      have hF : ∀ b i, F2 b = some i → F b = some i ∧ i ≠ j := fun b i z => by
        show F b = some i ∧ i ≠ j
        have z : (if F b = some j then none else F b) = some i := z
        split at z
        · cases z
        · rename_i n
          exact ⟨z, fun y => n (by rw [z, y])⟩
      have hF2 : ∀ b i, F b = some i → i ≠ j → F2 b = some i := fun b i z n => by
        show (if F b = some j then none else F b) = some i
        rw [if_neg (by rw [z]; intro y; cases y; exact n rfl)]; exact z
      have hne : ∀ b i, F b = some i → i ≠ j → b ≠ a := fun b i z n y => by rw [y, f1] at z; cases z; exact n rfl
      refine ⟨F2, upd I a (.lst vs), ⟨fun b y z n => ?_, fun b y z => s1 _ _ (S.inc b y z), fun b z => ?_, fun b i z => S.lab b i (hF b i z).1, S.there⟩, ⟨s2, fun b i z => ?_, by simpa using R.len, fun i sl z => ?_⟩, s3⟩
      · exact S.keep b y z n
      · by_cases hb : b = a
        · subst hb
          rcases S.lab b j f1 with y | y
          · exact .inr (.inr (by rw [y]; simp))
          · exact .inr (.inl y)
        · rw [upd_ne hb] at z; exact S.newI b z
      · obtain ⟨z1, z2⟩ := hF b i z
        rw [upd_ne (hne b i z1 z2)]
        exact R.lab b i z1
      · by_cases hij : i = j
        · subst hij
          rw [List.getElem?_set_self (R.lt q0)] at z
          cases z
          exact ⟨.ref a, h1, s3⟩
        · rw [List.getElem?_set_ne (Ne.symm hij)] at z
          obtain ⟨u, h1, h2⟩ := R.slot i sl z
          have own : ∀ {b : Addr} {c : C}, Own p F I H (some i) (fun _ => True) b c → Own p F2 (upd I a (.lst vs)) H (some i) (fun _ => True) b c := fun {b c} ⟨fp, g1, g2⟩ =>
            ⟨fp, g1.keep (fun _ _ => rfl) s1, fun x hx => ⟨hF2 x i (g2 x hx).1 hij, by rw [upd_ne (hne x i (g2 x hx).1 hij)]; exact (g2 x hx).2.1, trivial, (g2 x hx).2.2.2⟩⟩
          refine ⟨u, h1, ?_⟩
          cases sl with
          | d d => exact Dd.mono s1 h2
          | own c => obtain ⟨b, e, h2⟩ := h2; exact ⟨b, e, own h2⟩
          | lent b c => exact ⟨h2.1, own h2.2⟩
          | exc x => obtain ⟨d, g, h2⟩ := h2; exact ⟨d, g, h2.mono s1⟩
    · cases h
theorem frzK_of {k : D → Rho → Prop} (h : frzK ρ o k) : ∃ d ρ', frz ρ o = some (d, ρ') ∧ k d ρ' := by
  unfold frzK at h
  split at h
  · exact ⟨_, _, by assumption, h⟩
  · exact h.elim
theorem w_frz {f : DE} (σ : L2.St) (H : Hp) (Q : VK) (q : tE p W (dFrz f) σ H Q) : tE p W f σ H Q := by
  obtain ⟨F, I, ρ, P, PX, R, f1, k, x⟩ := q
  refine ⟨F, I, ρ, _, PX, R, f1, fun o ρ1 v F1 I1 H1 f2 s1 R1 r1 => ?_, x⟩
  obtain ⟨d, ρ2, e, f3⟩ := frzK_of f2
  obtain ⟨F', I', s', R', r'⟩ := freeze s1 R1 r1 e
  exact k (.d d) ρ2 v F' I' H1 f3 s' R' r'
end
section
variable {X : Cx} {G : V → Nat → Option Addr → Prop} {W : WX} {a : Expr} {fa : DE}
theorem e_frz (h : PEd X G W a fa) : PEd X G W a (dFrz fa) := PE.weak h w_frz
end
/-! ### arguments -/
def dNil : DA := fun ρ P _ => P [] ρ
def dCons (f : DE) (g : DA) : DA := fun ρ P PX => f ρ (fun o ρ1 => g ρ1 (fun os ρ2 => P (o :: os) ρ2) PX) PX
section
variable {p : Pm} {F F' F0 : Lab} {I I' I0 H0 H1 H H' : Hp} {σ : L2.St} {W : WX}
theorem ResAll.stay {vs : List V} {os : List O} (h : ResAll p F I H0 H σ vs os) (s : Step F I H F' I' H') : ResAll p F' I' H0 H' σ vs os := Paired.mapP h fun _ _ z => z.stay s
theorem ResAll.older {vs : List V} {os : List O} (h : ResAll p F I H0 H σ vs os) (n : ∀ b, H0 b = none → H1 b = none) : ResAll p F I H1 H σ vs os := Paired.mapP h fun _ _ z => z.older n
theorem w_nil (σ : L2.St) (H : Hp) (Q : List V → Hp → Prop) (q : tA p W dNil σ H Q) : tNil σ H Q := by
  obtain ⟨F, I, ρ, P, PX, R, f1, k, x⟩ := q
  exact k [] ρ [] F I H f1 (Step.refl ..) R .nil
theorem w_cons {f : DE} {g : DA} (σ : L2.St) (H : Hp) (Q : List V → Hp → Prop) (q : tA p W (dCons f g) σ H Q) : tCons (tE p W f) (tA p W g) σ H Q := by
  obtain ⟨F, I, ρ, P, PX, R, f1, k, x⟩ := q
  refine ⟨F, I, ρ, _, PX, R, f1, fun o ρ1 v F1 I1 H1 f2 s1 R1 r1 => ?_, x⟩
  refine ⟨F1, I1, ρ1, _, PX, R1, f2, fun os ρ2 vs F2 I2 H2 f3 s2 R2 r2 => ?_, x.later s1⟩
  exact k (o :: os) ρ2 (v :: vs) F2 I2 H2 f3 (s1.trans s2) R2 (.cons (r1.stay s2) (ResAll.older r2 fun b e => s1.old e))
end
def vwsK (ρ : Rho) (os : List O) (k : List D → Prop) : Prop := match vws ρ os with
  | some ds => k ds
  | none => False
theorem vwsK_of {ρ : Rho} {os : List O} {k : List D → Prop} (h : vwsK ρ os k) : ∃ ds, vws ρ os = some ds ∧ k ds := by
  unfold vwsK at h
  split at h
  · exact ⟨_, by assumption, h⟩
  · exact h.elim
/-- a call by values -/
def CallS (p : Pm) (r : List V → Hp → VK → Prop) (f : List D → (O → Prop) → Prop) : Prop := ∀ F I H σ ρ vs ds P Q, Rel p F I H σ ρ → Paired (Dd1 p I H) vs ds → f ds P → Kont p F I H σ ρ P Q → r vs H Q
def dCB (f : List D → (O → Prop) → Prop) (g : DA) : DE := fun ρ P PX => g ρ (fun os ρ1 => vwsK ρ1 os fun ds => f ds fun o => P o ρ1) PX
def onlyD : List O → Option (List D)
  | [] => some []
  | .d d :: os => (match onlyD os with
    | some ds => some (d :: ds)
    | none => none)
  | _ :: _ => none
def onlyK (os : List O) (k : List D → Prop) : Prop := match onlyD os with
  | some ds => k ds
  | none => False
/-- displays: the items are data (owned lists were handed over before: dFrz) -/
def dTup (g : DA) : DE := fun ρ P PX => g ρ (fun os ρ1 => onlyK os fun ds => ds.length ≤ 16000000 ∧ P (.d (.tuple ds)) ρ1) PX
def dLst (g : DA) : DE := fun ρ P PX => g ρ (fun os ρ1 => onlyK os fun ds => ds.length ≤ 16000000 ∧ P (.tmp (.lst ds)) ρ1) PX
section
variable {p : Pm} {F F' F0 : Lab} {I I' I0 H0 H1 H H' : Hp} {σ : L2.St} {W : WX}
theorem onlyD_ok : ∀ {vs : List V} {os : List O} {ds : List D}, ResAll p F I H0 H σ vs os → onlyD os = some ds → DdAll p I vs ds
  | _, _, _, .nil, h => by cases h; exact .nil
  | _, _, _, .cons (b := o) r rs, h => by
    cases o with
    | d d =>
      unfold onlyD at h
      split at h
      · cases h
        exact .cons r (onlyD_ok rs (by assumption))
      · cases h
    | _ => cases h
theorem onlyK_of {os : List O} {k : List D → Prop} (h : onlyK os k) : ∃ ds, onlyD os = some ds ∧ k ds := by
  unfold onlyK at h
  split at h
  · exact ⟨_, by assumption, h⟩
  · exact h.elim
theorem w_cb {r : List V → Hp → VK → Prop} {f : List D → (O → Prop) → Prop} {g : DA} (hs : CallS p r f) (σ : L2.St) (H : Hp) (Q : VK) (q : tE p W (dCB f g) σ H Q) : tCB r (tA p W g) σ H Q := by
  obtain ⟨F, I, ρ, P, PX, R, f1, k, x⟩ := q
  refine ⟨F, I, ρ, _, PX, R, f1, fun os ρ1 vs F1 I1 H1 f2 s1 R1 r1 => ?_, x⟩
  obtain ⟨ds, e, f3⟩ := vwsK_of f2
  exact hs F1 I1 H1 σ ρ1 vs ds _ Q R1 (vws_ok R1 r1 e) f3 fun o v' I' H' h s' R' r' => k o ρ1 v' F1 I' H' h (s1.trans s') R' (r'.older fun b e => s1.old e)
theorem w_tup {g : DA} (σ : L2.St) (H : Hp) (Q : VK) (q : tE p W (dTup g) σ H Q) : tTupF (tA p W g) σ H Q := by
  obtain ⟨F, I, ρ, P, PX, R, f1, k, x⟩ := q
  refine ⟨F, I, ρ, _, PX, R, f1, fun os ρ1 vs F1 I1 H1 f2 s1 R1 r1 => ?_, x⟩
  have sl : (sizeLine : Nat) = 16777216 := sizeLine_eq
  obtain ⟨ds, e, f3⟩ := onlyK_of f2
  have r := onlyD_ok r1 e
  refine ⟨by have := f3.1; have := r.length; omega, ?_⟩
  exact Kont.tup (P := fun o => P o ρ1) (fun o v' I' H' h s' R' r' => k o ρ1 v' F1 I' H' h (s1.trans s') R' (r'.older fun b e => s1.old e)) R1 f3.2 r
theorem w_lst {g : DA} (σ : L2.St) (H : Hp) (Q : VK) (q : tE p W (dLst g) σ H Q) : tLst (tA p W g) σ H Q := by
  obtain ⟨F, I, ρ, P, PX, R, f1, k, x⟩ := q
  refine ⟨F, I, ρ, _, PX, R, f1, fun os ρ1 vs F1 I1 H1 f2 s1 R1 r1 => ?_, x⟩
  have sl : (sizeLine : Nat) = 16777216 := sizeLine_eq
  obtain ⟨ds, e, f3⟩ := onlyK_of f2
  have r := onlyD_ok r1 e
  refine ⟨by have := f3.1; have := r.length; omega, fun q n => ?_⟩
  exact Kont.lst (P := fun o => P o ρ1) (fun o v' I' H' h s' R' r' => k o ρ1 v' F1 I' H' h (s1.trans s') R' (r'.older fun b e => s1.old e)) R1 f3.2 r n
end
section
variable {X : Cx} {G : V → Nat → Option Addr → Prop} {W : WX} {pos pos' : Pos} {a : Expr} {fa : DE} {es : List Expr} {g : DA}
theorem a_nil : PAd X G W [] dNil := PA.weak pa_nil w_nil
theorem a_cons (ha : PEd X G W a fa) (hr : PAd X G W es g) (hs : starEach (a :: es) X.env = (false, eval a X.env) :: starEach es X.env := by rfl) : PAd X G W (a :: es) (dCons fa g) := PA.weak (pa_cons ha hr hs) w_cons
theorem e_tup {x1} (h : PAd X G W es g) : PEd X G W (.Tuple es x1 pos) (dTup g) := PE.weak (pe_tupF h) w_tup
theorem e_lst (h : PAd X G W es g) : PEd X G W (.List es pos) (dLst g) := PE.weak (pe_lst h) w_lst
theorem e_cb {id : String} {x : Str} {r : List V → Hp → VK → Prop} {f : List D → (O → Prop) → Prop} (hc : CallR X (.builtin id) r) (hs : CallS (pm X G) r f) (hg : Gl X x) (hm : X.mg x = none) (hv : bootBuiltins x = some (.builtin id)) (ha : PAd X G W (a :: es) g)
    (hn : x ≠ "__name__" := by decide) (hdb : (x == ("__debug__" : Str)) = false := by decide)
    (he : starEach (a :: es) X.env = (false, eval a X.env) :: starEach es X.env := by rfl) (hpl : (backTo pos (starEach es X.env)).any (·.1) = false := by rfl) : PEd X G W (.Call (.Name x pos') (a :: es) [] pos) (dCB f g) := PE.weak (pe_callB hc hg hm hv ha hn hdb he hpl) (w_cb hs)
theorem e_cty {T : String} {x : Str} {r : List V → Hp → VK → Prop} {f : List D → (O → Prop) → Prop} (hc : CallR X (.type T) r) (hs : CallS (pm X G) r f) (hg : Gl X x) (hm : X.mg x = none) (hv : bootBuiltins x = some (.type T)) (ha : PAd X G W (a :: es) g)
    (hn : x ≠ "__name__" := by decide) (hdb : (x == ("__debug__" : Str)) = false := by decide)
    (he : starEach (a :: es) X.env = (false, eval a X.env) :: starEach es X.env := by rfl) (hpl : (backTo pos (starEach es X.env)).any (·.1) = false := by rfl) : PEd X G W (.Call (.Name x pos') (a :: es) [] pos) (dCB f g) := PE.weak (pe_callTy hc hg hm hv ha hn hdb he hpl) (w_cb hs)
end
end Dt

namespace Dt
open PySem PySem.Spec PyProof.Rows L2

theorem srtR_eq {xs ys : List Int} (p : ys.Perm xs) (h : ys.Pairwise (· ≥ ·)) : ys = (srt xs).reverse := by
  have e : ys.reverse = srt xs := srt_eq ((List.reverse_perm ys).trans p) (by rw [List.pairwise_reverse]; exact h)
  rw [← e, List.reverse_reverse]
def mxL : List Int → Int
  | [] => 0
  | [x] => x
  | x :: xs => max x (mxL xs)
theorem mxL_mem : ∀ {xs : List Int}, xs ≠ [] → mxL xs ∈ xs ∧ ∀ y ∈ xs, y ≤ mxL xs
  | [], h => absurd rfl h
  | [x], _ => by simp [mxL]
  | x :: y :: r, _ => by
    obtain ⟨h1, h2⟩ := mxL_mem (xs := y :: r) (by simp)
    have e : mxL (x :: y :: r) = max x (mxL (y :: r)) := rfl
    refine ⟨?_, fun z hz => ?_⟩
    · rw [e]
      rcases Int.le_total x (mxL (y :: r)) with q | q
      · rw [Int.max_eq_right q]; exact List.mem_cons_of_mem _ h1
      · rw [Int.max_eq_left q]; exact List.mem_cons_self
    · rw [e]
      rcases List.mem_cons.mp hz with rfl | hz
      · omega
      · have := h2 z hz; omega
theorem mxL_eq {xs : List Int} {m : Int} (h : m ∈ xs) (k : ∀ y ∈ xs, y ≤ m) : m = mxL xs := by
  obtain ⟨h1, h2⟩ := mxL_mem (xs := xs) (List.ne_nil_of_mem h)
  have := h2 m h; have := k _ h1; omega
/-! ### built-in functions by data -/
abbrev DF := List D → (O → Prop) → Prop
def lenF : DF := fun ds P => match ds with
  | [.list xs] => P (.d (.int xs.length))
  | [.tuple xs] => P (.d (.int xs.length))
  | [.str s] => s.length ≤ 16000000 ∧ P (.d (.int s.length))
  | _ => False
def sumF : DF := fun ds P => match ds with
  | [.list xs] => intsK xs fun ns => P (.d (.int ns.sum))
  | [.tuple xs] => intsK xs fun ns => P (.d (.int ns.sum))
  | _ => False
def maxF : DF := fun ds P => match ds with
  | [.list xs] => intsK xs fun ns => ns ≠ [] ∧ P (.d (.int (mxL ns)))
  | _ => False
def min2F : DF := fun ds P => match ds with
  | [.int i, .int j] => P (.d (.int (min i j)))
  | _ => False
def allF : DF := fun ds P => match ds with
  | [.list xs] => boolsK xs fun bs => P (.d (.bool (bs.all id)))
  | _ => False
def sortF : DF := fun ds P => match ds with
  | [.list xs] => intsK xs fun ns => P (.tmp (.lst ((srt ns).map PyData.int)))
  | [.tuple xs] => intsK xs fun ns => P (.tmp (.lst ((srt ns).map PyData.int)))
  | _ => False
def sortRF : DF := fun ds P => match ds with
  | [.list xs] => intsK xs fun ns => P (.tmp (.lst ((srt ns).reverse.map PyData.int)))
  | [.tuple xs] => intsK xs fun ns => P (.tmp (.lst ((srt ns).reverse.map PyData.int)))
  | _ => False
def listF : DF := fun ds P => match ds with
  | [.list xs] => P (.tmp (.lst xs))
  | [.tuple xs] => P (.tmp (.lst xs))
  | _ => False
def tupleF : DF := fun ds P => match ds with
  | [.list xs] => P (.d (.tuple xs))
  | [.tuple xs] => P (.d (.tuple xs))
  | _ => False
section
variable {p : Pm} {I H : Hp} {vs : List V}
theorem args1 {d : D} (h : Paired (Dd1 p I H) vs [d]) : ∃ v, vs = [v] ∧ Dd1 p I H v d := by
  cases h with
  | cons r rr => cases rr; exact ⟨_, rfl, r⟩
theorem args2 {d e : D} (h : Paired (Dd1 p I H) vs [d, e]) : ∃ v w, vs = [v, w] ∧ Dd1 p I H v d ∧ Dd1 p I H w e := by
  cases h with
  | cons r rr => cases rr with
    | cons r' rr => cases rr; exact ⟨_, _, rfl, r, r'⟩
theorem s_len : CallS p (fun xs H Q => ∃ x n, xs = [x] ∧ LenV p.K x H n ∧ Q (.int n) H) lenF := by
  intro F I H σ ρ vs ds P Q R hv h k
  have sl : (sizeLine : Nat) = 16777216 := sizeLine_eq
  unfold lenF at h
  split at h
  · obtain ⟨v, rfl, r⟩ := args1 hv
    obtain ⟨a, ws, rfl, e, r⟩ := r.list R.sub
    exact ⟨_, _, rfl, .inl ⟨ws, SqL.of e, rfl⟩, by rw [r.length]; exact k.flat R h (.int _)⟩
  · obtain ⟨v, rfl, r⟩ := args1 hv
    obtain ⟨a, o, ws, rfl, e, _, r⟩ := r.tuple
    exact ⟨_, _, rfl, .inr ⟨ws, sqF (R.sub _ _ e), rfl⟩, by rw [r.length]; exact k.flat R h (.int _)⟩
  · obtain ⟨v, rfl, r⟩ := args1 hv
    rw [r.str]
    exact ⟨_, _, rfl, ⟨by have := h.1; omega, rfl⟩, k.flat R h.2 (.int _)⟩
  · exact h.elim
theorem listInts {v : V} {ns : List Int} (R : Same I H) (h : Dd1 p I H v (.list (ns.map PyData.int))) : ∃ a, v = .ref a ∧ SqL p.K H a (ns.map V.int) := by
  obtain ⟨a, ws, rfl, e, r⟩ := h.list R
  rw [r.ofInts] at e
  exact ⟨a, rfl, SqL.of e⟩
theorem tupInts {v : V} {ns : List Int} (R : Same I H) (h : Dd1 p I H v (.tuple (ns.map PyData.int))) : ∃ a, v = .ref a ∧ SqT p.K H a (ns.map V.int) := by
  obtain ⟨a, o, ws, rfl, e, _, r⟩ := h.tuple
  rw [r.ofInts] at e
  exact ⟨a, rfl, sqF (R _ _ e)⟩
/-- sum of a list or of a tuple -/
def rSumD (K : PySem.W.Frag) : List V → Hp → VK → Prop := fun vs H Q => ∃ (a : Addr) (ns : List Int), vs = [V.ref a] ∧ (SqL K H a (ns.map V.int) ∨ SqT K H a (ns.map V.int)) ∧ Q (.int ns.sum) H
theorem cr_sumD {X : Cx} (hc : X.calm = true) : CallR X (.builtin "sum") (rSumD X.K) := by
  intro pins s σ H vs us Q I r h
  obtain ⟨a, ns, rfl, hs | hs, q⟩ := h
  · exact cr_sum hc pins s σ H _ us Q I r ⟨a, ns, rfl, hs, q⟩
  · obtain ⟨its, rv, ht, _⟩ := I.tuple hs
    obtain ⟨xs, e⟩ := rv.ints.allInts.items
    have hn : numsOf (intItems xs).toList = ns := by rw [← e]; exact rv.ints.numsOf
    rw [nums_intItems] at hn
    rw [e] at ht
    rw [Vals.ref1 r]
    refine PySem.W.ktm_sumG (I.ok.hd hc) ht fun h' tk t' hk => ?_
    rw [preSum_eq, List.take_of_length_le (by simp), hn]
    exact ⟨.int _, H, I.kept hk, ⟨_, rfl⟩, q⟩
theorem s_sum : CallS p (rSumD p.K) sumF := by
  intro F I H σ ρ vs ds P Q R hv h k
  unfold sumF at h
  split at h
  · obtain ⟨ns, rfl, hh⟩ := intsK_of h
    obtain ⟨v, rfl, r⟩ := args1 hv
    obtain ⟨a, rfl, e⟩ := listInts R.sub r
    exact ⟨a, ns, rfl, .inl e, k.flat R hh (.int _)⟩
  · obtain ⟨ns, rfl, hh⟩ := intsK_of h
    obtain ⟨v, rfl, r⟩ := args1 hv
    obtain ⟨a, rfl, e⟩ := tupInts R.sub r
    exact ⟨a, ns, rfl, .inr e, k.flat R hh (.int _)⟩
  · exact h.elim
theorem s_max : CallS p (rMax p.K) maxF := by
  intro F I H σ ρ vs ds P Q R hv h k
  unfold maxF at h
  split at h
  · obtain ⟨ns, rfl, h0, h⟩ := intsK_of h
    obtain ⟨v, rfl, r⟩ := args1 hv
    obtain ⟨a, rfl, e⟩ := listInts R.sub r
    exact ⟨a, ns, rfl, e, List.length_pos_iff.mpr h0, fun m h1 h2 => by rw [mxL_eq h1 h2]; exact k.flat R h (.int _)⟩
  · exact h.elim
theorem s_min2 : CallS p (fun xs H Q => ∃ i j, xs = [.int i, .int j] ∧ Q (.int (if j < i then j else i)) H) min2F := by
  intro F I H σ ρ vs ds P Q R hv h k
  unfold min2F at h
  split at h
  · rename_i i j
    obtain ⟨v, w, rfl, r1, r2⟩ := args2 hv
    rw [r1.int, r2.int]
    refine ⟨_, _, rfl, ?_⟩
    have e : (if j < i then j else i) = min i j := by omega
    rw [e]
    exact k.flat R h (.int _)
  · exact h.elim
theorem s_all : CallS p (rAll p.K) allF := by
  intro F I H σ ρ vs ds P Q R hv h k
  unfold allF at h
  split at h
  · obtain ⟨ns, rfl, hh⟩ := boolsK_of h
    obtain ⟨v, rfl, r⟩ := args1 hv
    obtain ⟨a, ws, rfl, e, r⟩ := r.list R.sub
    rw [r.ofBools] at e
    exact ⟨a, ns, rfl, SqL.of e, k.flat R hh (.bl _)⟩
  · exact h.elim
theorem s_sort : CallS p (rSrt p.K false) sortF := by
  intro F I H σ ρ vs ds P Q R hv h k
  unfold sortF at h
  split at h
  · obtain ⟨ns, rfl, hh⟩ := intsK_of h
    obtain ⟨v, rfl, r⟩ := args1 hv
    obtain ⟨a, rfl, e⟩ := listInts R.sub r
    exact ⟨a, ns, rfl, .inl e, fun ns' q h1 h2 n => k.lst R (by rw [srt_eq h1 h2] at *; exact hh) (DdAll.ints _) n⟩
  · obtain ⟨ns, rfl, hh⟩ := intsK_of h
    obtain ⟨v, rfl, r⟩ := args1 hv
    obtain ⟨a, rfl, e⟩ := tupInts R.sub r
    exact ⟨a, ns, rfl, .inr e, fun ns' q h1 h2 n => k.lst R (by rw [srt_eq h1 h2] at *; exact hh) (DdAll.ints _) n⟩
  · exact h.elim
theorem s_sortR : CallS p (rSrt p.K true) sortRF := by
  intro F I H σ ρ vs ds P Q R hv h k
  unfold sortRF at h
  split at h
  · obtain ⟨ns, rfl, hh⟩ := intsK_of h
    obtain ⟨v, rfl, r⟩ := args1 hv
    obtain ⟨a, rfl, e⟩ := listInts R.sub r
    exact ⟨a, ns, rfl, .inl e, fun ns' q h1 h2 n => k.lst R (by rw [srtR_eq h1 h2] at *; exact hh) (DdAll.ints _) n⟩
  · obtain ⟨ns, rfl, hh⟩ := intsK_of h
    obtain ⟨v, rfl, r⟩ := args1 hv
    obtain ⟨a, rfl, e⟩ := tupInts R.sub r
    exact ⟨a, ns, rfl, .inr e, fun ns' q h1 h2 n => k.lst R (by rw [srtR_eq h1 h2] at *; exact hh) (DdAll.ints _) n⟩
  · exact h.elim
theorem s_list : CallS p (fun xs H Q => ∃ q ys, xs = [.ref q] ∧ (SqL p.K H q ys ∨ SqT p.K H q ys) ∧ ∀ l, H l = none → Q (.ref l) (upd H l (.lst ys))) listF := by
  intro F I H σ ρ vs ds P Q R hv h k
  unfold listF at h
  split at h
  · obtain ⟨v, rfl, r⟩ := args1 hv
    obtain ⟨a, ws, rfl, e, r⟩ := r.list R.sub
    exact ⟨a, ws, rfl, .inl (SqL.of e), fun l n => k.lst R h r n⟩
  · obtain ⟨v, rfl, r⟩ := args1 hv
    obtain ⟨a, o, ws, rfl, e, _, r⟩ := r.tuple
    exact ⟨a, ws, rfl, .inr (sqF (R.sub _ _ e)), fun l n => k.lst R h r n⟩
  · exact h.elim
theorem s_tuple : CallS p (fun xs H Q => ∃ q ys, xs = [.ref q] ∧ ((SqL p.K H q ys ∧ NewT H Q ys) ∨ (SqT p.K H q ys ∧ Q (.ref q) H))) tupleF := by
  intro F I H σ ρ vs ds P Q R hv h k
  unfold tupleF at h
  split at h
  · obtain ⟨v, rfl, r⟩ := args1 hv
    obtain ⟨a, ws, rfl, e, r⟩ := r.list R.sub
    exact ⟨a, ws, rfl, .inl ⟨SqL.of e, k.tup R h r⟩⟩
  · obtain ⟨v, rfl, r⟩ := args1 hv
    obtain ⟨a, o, ws, rfl, e, z, r⟩ := r.tuple
    exact ⟨a, ws, rfl, .inr ⟨sqF (R.sub _ _ e), k.flat R h (.tup e z r)⟩⟩
  · exact h.elim
end

/-! ### isinstance of built-in types -/
def tyName : D → String
  | .none => "NoneType"
  | .bool _ => "bool"
  | .int _ => "int"
  | .str _ => "str"
  | .list _ => "list"
  | .tuple _ => "tuple"
  | .dict _ => "dict"
def isT (T : String) : D → Bool
  | .none => T == "NoneType"
  | .bool _ => T == "bool" || T == "int"
  | .int _ => T == "int"
  | .str _ => T == "str"
  | .list _ => T == "list"
  | .tuple _ => T == "tuple"
  | .dict _ => false
def okT (T : String) : Prop := ∀ n ∈ ["NoneType", "bool", "int", "str", "list", "tuple"], kitB n T = some (T == n || (n == "bool" && T == "int"))
def noInst : D → Prop
  | .dict _ => False
  | _ => True
def isiD (T : String) : D1 := fun d P => noInst d ∧ P (.d (.bool (isT T d)))
def isi2D (T U : String) : D1 := fun d P => noInst d ∧ P (.d (.bool (isT T d || isT U d)))
section
variable {p : Pm} {I H : Hp}
theorem tyX_of {v : V} {d : D} (s : Same I H) (h : Dd1 p I H v d) (n : noInst d) : TyX p.K H v (.type (tyName d)) := by
  cases d with
  | none => rw [h.none]; exact .base .non
  | bool b => rw [h.bool]; exact .base (.bl _)
  | int b => rw [h.int]; exact .base (.int _)
  | str b => rw [h.str]; exact .base (.str _)
  | list ds => obtain ⟨a, ws, rfl, e, r⟩ := h.list s; exact .base (.lst e)
  | tuple ds => obtain ⟨a, o, ws, rfl, e, _, r⟩ := h.tuple; exact .fTuple (s _ _ e)
  | dict ds => exact n.elim
theorem isT_of {T : String} {d : D} (hT : okT T) (n : noInst d) : PySem.W.kitOne p.K (.type (tyName d)) (.type T) = some (isT T d) := by
  refine kit_ty ?_
  cases d with
  | none => rw [show tyName PyData.none = "NoneType" from rfl, hT "NoneType" (by simp)]; simp [isT]
  | bool b => rw [show tyName (PyData.bool b) = "bool" from rfl, hT "bool" (by simp)]; simp [isT]
  | int b => rw [show tyName (PyData.int b) = "int" from rfl, hT "int" (by simp)]; simp [isT]
  | str b => rw [show tyName (PyData.str b) = "str" from rfl, hT "str" (by simp)]; simp [isT]
  | list ds => rw [show tyName (PyData.list ds) = "list" from rfl, hT "list" (by simp)]; simp [isT]
  | tuple ds => rw [show tyName (PyData.tuple ds) = "tuple" from rfl, hT "tuple" (by simp)]; simp [isT]
  | dict ds => exact n.elim
end
section
variable {X : Cx} {G : V → Nat → Option Addr → Prop} {W : WX} {pos pos' tp : Pos} {a : Expr} {fa : DE}
theorem e_isi {T : String} {x : Str} {n : Str} (hn : n = "isinstance") (hT : okT T) (hg : Gl X n) (hm : X.mg n = none) (hg2 : Gl X x) (hm2 : X.mg x = none) (hv2 : bootBuiltins x = some (.type T)) (ha : PEd X G W a fa)
    (hn2 : x ≠ "__name__" := by decide) (hd2 : (x == ("__debug__" : Str)) = false := by decide)
    (h1 : starEach [.Name x tp] X.env = (false, eval (.Name x tp) X.env) :: starEach [] X.env := by rfl) (h2 : starEach [a, .Name x tp] X.env = (false, eval a X.env) :: starEach [.Name x tp] X.env := by rfl)
    (hpl : (backTo pos (starEach [.Name x tp] X.env)).any (·.1) = false := by rfl) : PEd X G W (.Call (.Name n pos') [a, .Name x tp] [] pos) (dUn (isiD T) fa) := by
  subst hn
  refine PE.weak (pe_callB call_isi hg hm (by decide +kernel) (pa_cons ha (pa_cons (pe_bltn (v := .ty T) hg2 hm2 hv2 rfl hn2 hd2) pa_nil h1) h2) (by decide) (by decide) h2 hpl) fun σ H Q q => ?_
  obtain ⟨F, I, ρ, P, PX, R, f1, k, x⟩ := q
  refine ⟨F, I, ρ, _, PX, R, f1, fun o ρ1 v F1 I1 H1 f2 s1 R1 r1 => ?_, x⟩
  obtain ⟨d, e, nd, f3⟩ := vw1_of f2
  have hd := vw_ok R1 r1 e
  exact (show rIsi X.K [v, .ty T] H1 Q from ⟨v, .ty T, _, _, _, rfl, .ty T, tyX_of R1.sub hd nd, isT_of (p := pm X G) hT nd, k _ _ _ _ _ _ f3 s1 R1 (Dd.bl _)⟩)
end

/-! ### subscripts and slices -/
@[irreducible] def getK {α : Type} (o : Option α) (k : α → Prop) : Prop := match o with
  | some d => k d
  | none => False
theorem getK_of {α : Type} {o : Option α} {k : α → Prop} (h : getK o k) : ∃ d, o = some d ∧ k d := by
  unfold getK at h
  split at h
  · exact ⟨_, rfl, h⟩
  · exact h.elim
theorem getK_mk {α : Type} {o : Option α} {k : α → Prop} (d : α) (e : o = some d) (h : k d) : getK o k := by unfold getK; rw [e]; exact h
def ixD : D2 := fun d e P => match d, e with
  | .list ds, .int i => getK (atI ds i) fun d => P (.d d)
  | .tuple ds, .int i => getK (atI ds i) fun d => P (.d d)
  | .str z, .int i => z.length ≤ 16000000 ∧ (match atI z.cps.toList i with
    | some c => P (.d (.str ⟨#[c]⟩))
    | none => False)
  | _, _ => False
def cut {α : Type} (xs : List α) (lo hi : Option Int) : List α := (xs.drop (HT.sIx xs.length 0 lo)).take (HT.sIx xs.length xs.length hi - HT.sIx xs.length 0 lo)
section
variable {p : Pm} {I H : Hp}
theorem atI_ok {vs : List V} {ds : List D} {i : Int} {d : D} (r : DdAll p I vs ds) (h : atI ds i = some d) : ∃ v, atI vs i = some v ∧ Dd p I v d := by
  unfold atI at h ⊢
  rw [r.length]
  cases e : ixN ds.length i with
  | none => rw [e] at h; cases h
  | some j => rw [e] at h; exact r.get h
theorem s_ix : OpS p (rIx p.K) ixD := by
  intro F I H σ ρ v w d e P Q R h1 h2 h k
  have sl : (sizeLine : Nat) = 16777216 := sizeLine_eq
  unfold ixD at h
  split at h
  · obtain ⟨d0, e0, h⟩ := getK_of h
    obtain ⟨a, ws, rfl, e, r⟩ := h1.list R.sub
    obtain ⟨u, h3, h4⟩ := atI_ok r e0
    exact .inl ⟨a, ws, _, u, rfl, h2.int, SqL.of e, h3, k.flat R h h4⟩
  · obtain ⟨d0, e0, h⟩ := getK_of h
    obtain ⟨a, o, ws, rfl, e, _, r⟩ := h1.tuple
    obtain ⟨u, h3, h4⟩ := atI_ok r e0
    exact .inr (.inl ⟨a, ws, _, u, rfl, h2.int, sqF (R.sub _ _ e), h3, k.flat R h h4⟩)
  · obtain ⟨hl, h⟩ := h
    split at h
    · exact .inr (.inr ⟨_, _, _, h1.str, h2.int, by omega, by assumption, k.flat R h (.str _)⟩)
    · exact h.elim
  · exact h.elim
theorem DdAll.cut {vs : List V} {ds : List D} (r : DdAll p I vs ds) (lo hi : Option Int) : DdAll p I (cut vs lo hi) (cut ds lo hi) := by
  unfold Dt.cut
  rw [r.length]
  exact (r.drop _).take _
end
abbrev DO := Rho → (Option Int → Rho → Prop) → (Exn → Rho → Prop) → Prop
def dNoPart : DO := fun ρ P _ => P none ρ
def dPart (f : DE) : DO := fun ρ P PX => f ρ (fun o ρ1 => match o with
  | .d (.int i) => P (some i) ρ1
  | _ => False) PX
def slD (d : D) (lo hi : Option Int) (P : O → Prop) : Prop := match d with
  | .list ds => P (.tmp (.lst (cut ds lo hi)))
  | .tuple ds => P (.d (.tuple (cut ds lo hi)))
  | .str s => s.length ≤ 16000000 ∧ P (.d (.str (cutS s lo hi)))
  | _ => False
def dSl (f : DE) (l h : DO) : DE := fun ρ P PX => f ρ (fun o ρ1 => l ρ1 (fun lo ρ2 => h ρ2 (fun hi ρ3 => vw1 ρ3 o fun d => slD d lo hi fun o => P o ρ3) PX) PX) PX
def dRev (f : DE) : DE := dUn (fun d P => match d with
  | .list ds => P (.tmp (.lst ds.reverse))
  | _ => False) f
def tO (p : Pm) (W : WX) (f : DO) : TO := fun σ H Q => ∃ F I ρ P PX, Rel p F I H σ ρ ∧ f ρ P PX ∧
  (∀ b ρ' F' I' H', P b ρ' → Step F I H F' I' H' → Rel p F' I' H' σ ρ' → Q b H') ∧ XEnd p W F I H σ PX
abbrev POd (X : Cx) (G : V → Nat → Option Addr → Prop) (W : WX) (e : Option Expr) (f : DO) : Prop := PO X e (tO (pm X G) W f)
abbrev rSlD (K : PySem.W.Frag) : V → Option Int → Option Int → Hp → VK → Prop := fun x lo hi H Q => rSlL K x lo hi H Q ∨ (rSlF K x lo hi H Q ∨ rSlS x lo hi H Q)
section
variable {X : Cx} {G : V → Nat → Option Addr → Prop} {W : WX} {pos pos' p2 : Pos} {a b : Expr} {fa fb : DE} {lo hi : Option Expr} {fl fh : DO}
theorem PO.weak {e : Option Expr} {t t' : TO} (h : PO X e t) (w : ∀ σ H Q, t' σ H Q → t σ H Q) : PO X e t' := ⟨fun pins s σ H Q I q => h.run pins s σ H Q I (w σ H Q q)⟩
theorem o_none : POd X G W none dNoPart := PO.weak po_none fun σ H Q q => by
  obtain ⟨F, I, ρ, P, PX, R, f1, k, x⟩ := q
  exact k none ρ F I H f1 (Step.refl ..) R
theorem o_some (h : PEd X G W a fa) : POd X G W (some a) (dPart fa) := PO.weak (po_some h) fun σ H Q q => by
  obtain ⟨F, I, ρ, P, PX, R, f1, k, x⟩ := q
  refine ⟨F, I, ρ, _, PX, R, f1, fun o ρ1 v F1 I1 H1 f2 s1 R1 r1 => ?_, x⟩
  split at f2
  · cases r1
    exact ⟨_, rfl, k _ ρ1 F1 I1 H1 f2 s1 R1⟩
  · exact f2.elim
theorem e_ix (ha : PEd X G W a fa) (hb : PEd X G W b fb) (hs : PlainIx b := by exact fun _ _ => rfl) : PEd X G W (.Subscript a b pos) (dOp ixD fa fb) := PE.weak (pe_ix ix_seq ha hb hs) (w_op s_ix)
theorem e_sl (ha : PEd X G W a fa) (hl : POd X G W lo fl) (hh : POd X G W hi fh) : PEd X G W (.Subscript a (.Slice lo hi none p2) pos) (dSl fa fl fh) := PE.weak (pe_slice (r := rSlD X.K) (sl_list.or (sl_tupF.or sl_str)) ha hl hh) fun σ H Q q => by
  obtain ⟨F, I, ρ, P, PX, R, f1, k, x⟩ := q
  have sl : (sizeLine : Nat) = 16777216 := sizeLine_eq
  refine ⟨F, I, ρ, _, PX, R, f1, fun o ρ1 v F1 I1 H1 f2 s1 R1 r1 => ?_, x⟩
  refine ⟨F1, I1, ρ1, _, PX, R1, f2, fun lo ρ2 F2 I2 H2 f3 s2 R2 => ?_, x.later s1⟩
  refine ⟨F2, I2, ρ2, _, PX, R2, f3, fun hi ρ3 F3 I3 H3 f4 s3 R3 => ?_, x.later (s1.trans s2)⟩
  obtain ⟨d, e, f5⟩ := vw1_of f4
  have hd := vw_ok R3 ((r1.stay s2).stay s3) e
  have s4 := (s1.trans s2).trans s3
  have K : Kont (pm X G) F3 I3 H3 σ ρ3 (fun o => P o ρ3) Q := fun o v' I' H' h s' R' r' => k o ρ3 v' F3 I' H' h (s4.trans s') R' (r'.older fun b e => s4.old e)
  unfold slD at f5
  split at f5
  · obtain ⟨a, ws, rfl, e, r⟩ := hd.list R3.sub
    exact .inl ⟨a, ws, rfl, SqL.of e, fun q n => K.lst R3 f5 (r.cut lo hi) n⟩
  · obtain ⟨a, o, ws, rfl, e, z, r⟩ := hd.tuple
    refine .inr (.inl ⟨a, ws, rfl, sqF (R3.sub _ _ e), fun hw => ?_, fun _ => K.tup R3 f5 (r.cut lo hi)⟩)
    have ec : ∀ {α : Type} (xs : List α), xs.length = ws.length → cut xs lo hi = xs := fun xs hx => by
      unfold cut
      rw [hx, hw.1, hw.2]
      simp [← hx]
    rw [ec _ r.length.symm] at f5
    exact K.flat R3 f5 (.tup e z r)
  · exact .inr (.inr ⟨_, hd.str, by have := f5.1; omega, K.flat R3 f5.2 (.str _)⟩)
  · exact f5.elim
theorem e_rev {k : Nat} {q1 q2 q3 : Pos} (ha : PEd X G W a fa) : PEd X G W (.Subscript a (.Slice none none (some (.UnaryOp .USub (.Constant (.int 1) k q1) q2)) q3) pos) (dRev fa) := PE.weak (pe_revL ha) fun σ H Q q => by
  obtain ⟨F, I, ρ, P, PX, R, f1, k, x⟩ := q
  refine ⟨F, I, ρ, _, PX, R, f1, fun o ρ1 v F1 I1 H1 f2 s1 R1 r1 => ?_, x⟩
  obtain ⟨d, e, f3⟩ := vw1_of f2
  have hd := vw_ok R1 r1 e
  split at f3
  · obtain ⟨a, ws, rfl, e, r⟩ := hd.list R1.sub
    have K : Kont (pm X G) F1 I1 H1 σ ρ1 (fun o => P o ρ1) Q := fun o v' I' H' h s' R' r' => k o ρ1 v' F1 I' H' h (s1.trans s') R' (r'.older fun b e => s1.old e)
    exact ⟨a, ws, rfl, SqL.of e, fun q n => K.lst R1 f3 r.reverse n⟩
  · exact f3.elim
end

/-! ### methods that read -/
def MtS (p : Pm) (T : String) (r : V → List V → Hp → VK → Prop) (f : D → DF) : Prop := ∀ F I H σ ρ v vs d ds P Q, Rel p F I H σ ρ → Dd1 p I H v d → Paired (Dd1 p I H) vs ds → f d ds P → Kont p F I H σ ρ P Q → r v vs H Q
def okTy (T : String) : D → Prop
  | .list _ => T = "list"
  | .tuple _ => T = "tuple"
  | .str _ => T = "str"
  | _ => False
section
variable {p : Pm} {I H : Hp}
theorem okTy_of {T : String} {v : V} {d : D} (s : Same I H) (h : Dd1 p I H v d) (t : okTy T d) : tyW p.K T v H := by
  cases d with
  | list ds => cases t; obtain ⟨a, ws, rfl, e, r⟩ := h.list s; exact .inl (.inl ⟨rfl, ws, SqL.of e⟩)
  | tuple ds => cases t; obtain ⟨a, o, ws, rfl, e, z, r⟩ := h.tuple; exact .inr ⟨rfl, a, o, ws, rfl, s _ _ e, z⟩
  | str x => cases t; rw [h.str]; exact .inl rfl
  | _ => exact t.elim
end
section
variable {X : Cx} {G : V → Nat → Option Addr → Prop} {W : WX} {apos cpos : Pos} {a e : Expr} {fa : DE} {es : List Expr} {g : DA} {name : Str} {T id : String} {r : V → List V → Hp → VK → Prop} {f : D → DF}
theorem PE.or {e : Expr} {t t' : TE} (h : PE X e t) (h' : PE X e t') : PE X e (fun σ H Q => t σ H Q ∨ t' σ H Q) := ⟨fun pins s σ H Q I q => q.elim (h.run pins s σ H Q I) (h'.run pins s σ H Q I)⟩
end
end Dt

namespace Dt
open PySem PySem.Spec PyProof.Rows L2

/-! ### storing in a slot -/
def setK (ρ : Rho) (i : Nat) (o : O) (k : Rho → Prop) : Prop := match o with
  | .d d => k (ρ.set i (some (.d d)))
  | .tmp c => k (ρ.set i (some (.own c)))
  | .exc x => k (ρ.set i (some (.exc x)))
  | .loc j => frzK ρ (.loc j) fun d ρ' => k (ρ'.set i (some (.d d)))
section
variable {p : Pm} {F F' F0 : Lab} {I I' I0 H0 H1 H H' : Hp} {σ : L2.St} {ρ ρ' : Rho} {v w : V} {o : O} {d e : D} {c : C} {W : WX}
theorem Rel.setD {i : Nat} {s : S} (R : Rel p F I H σ ρ) (h : SlotOk p F I H i v s) : Rel p F I H (σ.set i (some v)) (ρ.set i (some s)) := by
  refine ⟨R.sub, R.lab, by simpa using R.len, fun k sl e => ?_⟩
  by_cases hk : k = i
  · subst hk
    have hl : k < ρ.length := by
      have := (List.getElem?_eq_some_iff.mp e).1
      simpa using this
    rw [List.getElem?_set_self hl] at e
    cases e
    exact ⟨v, List.getElem?_set_self (by rw [← R.len]; exact hl), h⟩
  · rw [List.getElem?_set_ne (Ne.symm hk)] at e
    obtain ⟨u, h1, h2⟩ := R.slot k sl e
    exact ⟨u, by rw [List.getElem?_set_ne (Ne.symm hk)]; exact h1, h2⟩
/-- an object of nobody's becomes slot i's -/
theorem Rel.give {i : Nat} {a : Addr} (S : Step F0 I0 H0 F I H) (R : Rel p F I H σ ρ) (h : Own p F I H none (fun b => H0 b = none) a c) :
    ∃ F', Step F0 I0 H0 F' I H ∧ Rel p F' I H (σ.set i (some (.ref a))) (ρ.set i (some (.own c))) := by
  obtain ⟨fp, h1, h2⟩ := h
  let F2 : Lab := fun b => if b ∈ fp then some i else F b
  have e1 : ∀ b ∈ fp, F2 b = some i := fun b hb => if_pos hb
  have e2 : ∀ b, b ∉ fp → F2 b = F b := fun b hb => if_neg hb
  have old : ∀ b k, F b = some k → b ∉ fp := fun b k z hb => by rw [(h2 b hb).1] at z; cases z
  have R2 : Rel p F2 I H σ ρ := by
    refine ⟨R.sub, fun b j z => ?_, R.len, fun k sl z => ?_⟩
    · by_cases hb : b ∈ fp
      · exact ⟨(h2 b hb).2.1, (h2 b hb).2.2.2⟩
      · rw [e2 b hb] at z; exact R.lab b j z
    · obtain ⟨u, g1, g2⟩ := R.slot k sl z
      refine ⟨u, g1, ?_⟩
      have own : ∀ {b : Addr} {c : C}, Own p F I H (some k) (fun _ => True) b c → Own p F2 I H (some k) (fun _ => True) b c := fun {b c} ⟨fp', y1, y2⟩ =>
        ⟨fp', y1, fun x hx => ⟨by rw [e2 x (old x k (y2 x hx).1)]; exact (y2 x hx).1, (y2 x hx).2⟩⟩
      cases sl with
      | d d => exact g2
      | own c => obtain ⟨b, e, g2⟩ := g2; exact ⟨b, e, own g2⟩
      | lent b c => exact ⟨g2.1, own g2.2⟩
      | exc x => exact g2
  refine ⟨F2, ⟨S.keep, S.inc, S.newI, fun b j z => ?_, S.there⟩, R2.setD (s := .own c) ⟨a, rfl, fp, h1, fun b hb => ⟨e1 b hb, (h2 b hb).2.1, trivial, (h2 b hb).2.2.2⟩⟩⟩
  by_cases hb : b ∈ fp
  · exact .inr (h2 b hb).2.2.1
  · rw [e2 b hb] at z; exact S.lab b j z
theorem setK_ok {i : Nat} {k : Rho → Prop} (S : Step F0 I0 H0 F I H) (R : Rel p F I H σ ρ) (r : ResOk p F I H0 H σ v o) (h : setK ρ i o k) :
    ∃ F' I' ρ', Step F0 I0 H0 F' I' H ∧ Rel p F' I' H (σ.set i (some v)) ρ' ∧ k ρ' := by
  cases o with
  | d d => exact ⟨F, I, _, S, R.setD (s := .d d) r, h⟩
  | exc x => exact ⟨F, I, _, S, R.setD (s := .exc x) r, h⟩
  | tmp c =>
    obtain ⟨a, rfl, r⟩ := r
    obtain ⟨F', s', R'⟩ := R.give (i := i) S r
    exact ⟨F', I, _, s', R', h⟩
  | loc j =>
    obtain ⟨d, ρ', e, h⟩ := frzK_of h
    obtain ⟨F', I', s', R', r'⟩ := freeze S R r e
    exact ⟨F', I', _, s', R'.setD (s := .d d) r', h⟩
end

/-! ### statements -/
def dNext : DS := fun E ρ => E.nx ρ
def dSeq (f g : DS) : DS := fun E ρ => f { E with nx := fun ρ' => g E ρ' } ρ
def dExpr (f : DE) : DS := fun E ρ => f ρ (fun _ ρ1 => E.nx ρ1) E.ex
def dRet (f : DE) : DS := fun E ρ => f ρ (fun o ρ1 => E.rt o ρ1) E.ex
def dIf (t : DT) (f g : DS) : DS := fun E ρ => t ρ (fun c ρ1 => (c = true → f E ρ1) ∧ (c = false → g E ρ1)) E.ex
def dSet (i : Nat) (f : DE) : DS := fun E ρ => f ρ (fun o ρ1 => setK ρ1 i o E.nx) E.ex
section
variable {p : Pm} {W : WX}
theorem w_next (D : Ends) (σ : L2.St) (H : Hp) (q : tS p W dNext D σ H) : tNext D σ H := by
  obtain ⟨F, I, ρ, E, R, f, k⟩ := q
  exact k.nx ρ σ F I H f (Step.refl ..) R
theorem w_seq {f g : DS} (D : Ends) (σ : L2.St) (H : Hp) (q : tS p W (dSeq f g) D σ H) : tSeq (tS p W f) (tS p W g) D σ H := by
  obtain ⟨F, I, ρ, E, R, f, k⟩ := q
  exact ⟨F, I, ρ, _, R, f, ⟨fun ρ' σ' F' I' H' h s' R' => ⟨F', I', ρ', E, R', h, k.later s'⟩, k.bk, k.ct, k.rt, k.ex⟩⟩
theorem w_expr {f : DE} (D : Ends) (σ : L2.St) (H : Hp) (q : tS p W (dExpr f) D σ H) : tDrop (tE p W f) D σ H := by
  obtain ⟨F, I, ρ, E, R, f, k⟩ := q
  exact ⟨F, I, ρ, _, E.ex, R, f, fun o ρ' v F' I' H' h s' R' r' => k.nx ρ' σ F' I' H' h s' R', k.xend⟩
theorem w_ret {f : DE} (D : Ends) (σ : L2.St) (H : Hp) (q : tS p W (dRet f) D σ H) : tRet (tE p W f) D σ H := by
  obtain ⟨F, I, ρ, E, R, f, k⟩ := q
  exact ⟨F, I, ρ, _, E.ex, R, f, fun o ρ' v F' I' H' h s' R' r' => k.rt o ρ' v σ F' I' H' h s' R' r', k.xend⟩
theorem w_if {t : DT} {f g : DS} (D : Ends) (σ : L2.St) (H : Hp) (q : tS p W (dIf t f g) D σ H) : tIfS (tT p W t) (tS p W f) (tS p W g) D σ H := by
  obtain ⟨F, I, ρ, E, R, f, k⟩ := q
  refine ⟨F, I, ρ, _, E.ex, R, f, fun c ρ' F' I' H' h s' R' => ?_, k.xend⟩
  cases c with
  | true => exact iteT ⟨F', I', ρ', E, R', h.1 rfl, k.later s'⟩
  | false => exact iteF ⟨F', I', ρ', E, R', h.2 rfl, k.later s'⟩
theorem w_set {i : Nat} {f : DE} (D : Ends) (σ : L2.St) (H : Hp) (q : tS p W (dSet i f) D σ H) : tAsg (tE p W f) (gName i) D σ H := by
  obtain ⟨F, I, ρ, E, R, f, k⟩ := q
  refine ⟨F, I, ρ, _, E.ex, R, f, fun o ρ' v F' I' H' h s' R' r' => ?_, k.xend⟩
  obtain ⟨F2, I2, ρ2, s2, R2, h2⟩ := setK_ok s' R' r' h
  exact k.nx ρ2 _ F2 I2 H' h2 s2 R2
end
section
variable {X : Cx} {G : V → Nat → Option Addr → Prop} {W : WX} {pos pos' : Pos} {a c : Expr} {fa : DE} {t : DT} {st : Stmt} {rest b1 b2 : List Stmt} {f g : DS}
theorem z_nil : PSsd X G W [] dNext := PSs.weak pss_nil w_next
theorem z_cons (h1 : PSd X G W st f) (h2 : PSsd X G W rest g) : PSsd X G W (st :: rest) (dSeq f g) := PSs.weak (pss_cons h1 h2) w_seq
theorem z_one (h1 : PSd X G W st f) : PSsd X G W [st] f := pss_one h1
theorem z_expr (h : PEd X G W a fa) (hs : swapsWith a none pos.line X.env = pure false := by rfl) : PSd X G W (.Expr a pos) (dExpr fa) := PS.weak (ps_expr h hs) w_expr
theorem z_ret (h : PEd X G W a fa) : PSd X G W (.Return (some a) pos) (dRet fa) := PS.weak (ps_ret h) w_ret
theorem z_if (hc : PTd X G W c t) (h1 : PSsd X G W b1 f) (h2 : PSsd X G W b2 g) : PSd X G W (.If c b1 b2 pos) (dIf t f g) := PS.weak (ps_if hc h1 h2) w_if
theorem z_set {i : Nat} {x : Str} (hN : X.N.Nodup) (hi : X.N[i]? = some x) (hx : Loc X.env.scope x) (h : PEd X G W a fa) (hs : swapsWith a (some (.Name x pos')) pos.line X.env = pure false := by rfl)
    (hf : X.fn x = true ∨ X.env.scope.names.lookup x = some .local := by first | exact .inl rfl | exact .inr rfl) : PSd X G W (.Assign [.Name x pos'] a pos) (dSet i fa) := PS.weak (ps_set hN hi hx h hs hf) w_set
end

/-! ### where a proof stops -/
@[irreducible] def stp (b : DS) : DS := b
theorem stp_in {b : DS} {E : DEnds} {ρ : Rho} (h : b E ρ) : stp b E ρ := by unfold stp; exact h
theorem z_stp {X : Cx} {G : V → Nat → Option Addr → Prop} {W : WX} {ss : List Stmt} {b : DS} (h : PSsd X G W ss b) : PSsd X G W ss (stp b) := by unfold stp; exact h

/-! ### targets -/
abbrev DG := D → Rho → (Rho → Prop) → Prop
def dgName (i : Nat) : DG := fun d ρ P => P (ρ.set i (some (.d d)))
def dgs : List DG → List D → Rho → (Rho → Prop) → Prop
  | [], [], ρ, P => P ρ
  | g :: gs, d :: ds, ρ, P => g d ρ (fun ρ1 => dgs gs ds ρ1 P)
  | _, _, _, _ => False
def dgTup (gs : List DG) : DG := fun d ρ P => match d with
  | .tuple ds => ds.length = gs.length ∧ dgs gs ds ρ P
  | _ => False
theorem itemT_of {p : Pm} {I H : Hp} {v : V} {ds : List D} (s : Same I H) (h : Dd p I v (.tuple ds)) : ItemT p I H v (.tuple ds) := by
  cases h with
  | tup h z hs => exact ⟨_, _, ds, rfl, rfl, sqF (s _ _ h), hs⟩
def tG (p : Pm) (strong : Bool) (vs : List Nat) (g : DG) : TG := fun v σ H Q => ∃ F I ρ d P, Rel p F I H σ ρ ∧ Item p strong I H v d ∧ g d ρ P ∧
  ∀ ρ' σ', P ρ' → Rel p F I H σ' ρ' → wipe σ' vs = wipe σ vs → Q σ' H
def tGs (p : Pm) (vs : List Nat) (gs : List DG) : TGs := fun us σ H Q => ∃ F I ρ ds P, Rel p F I H σ ρ ∧ DdAll p I us ds ∧ dgs gs ds ρ P ∧
  ∀ ρ' σ', P ρ' → Rel p F I H σ' ρ' → wipe σ' vs = wipe σ vs → Q σ' H
abbrev PGd (X : Cx) (G : V → Nat → Option Addr → Prop) (strong : Bool) (vs : List Nat) (e : Expr) (g : DG) : Prop := PG X e (tG (pm X G) strong vs g)
abbrev PGsd (X : Cx) (G : V → Nat → Option Addr → Prop) (vs : List Nat) (es : List Expr) (gs : List DG) : Prop := PGs X es (tGs (pm X G) vs gs)
theorem PG.weak {X : Cx} {e : Expr} {t t' : TG} (h : PG X e t) (w : ∀ v σ H Q, t' v σ H Q → t v σ H Q) : PG X e t' := ⟨fun pins s σ H v u Q I r q => h.run pins s σ H v u Q I r (w v σ H Q q)⟩
theorem PGs.weak {X : Cx} {e : List Expr} {t t' : TGs} (h : PGs X e t) (w : ∀ v σ H Q, t' v σ H Q → t v σ H Q) : PGs X e t' := ⟨fun pins s σ H v u Q I r q => h.run pins s σ H v u Q I r (w v σ H Q q)⟩
theorem wipe_set {vs : List Nat} {σ : L2.St} {i : Nat} {x : Option V} (h : i ∈ vs) : wipe (σ.set i x) vs = wipe σ vs := by
  apply List.ext_getElem?
  intro k
  rw [wipe_get, wipe_get, List.length_set]
  by_cases hk : k ∈ vs ∧ k < σ.length
  · rw [if_pos hk, if_pos hk]
  · rw [if_neg hk, if_neg hk]
    by_cases e : i = k
    · subst e
      have : ¬ i < σ.length := fun z => hk ⟨h, z⟩
      rw [List.getElem?_eq_none (by rw [List.length_set]; omega), List.getElem?_eq_none (by omega)]
    · rw [List.getElem?_set_ne e]
section
variable {X : Cx} {G : V → Nat → Option Addr → Prop} {W : WX} {pos : Pos} {vs : List Nat} {e : Expr} {es : List Expr} {g : DG} {gs : List DG}
theorem g_name {i : Nat} {x : Str} (hN : X.N.Nodup) (hi : X.N[i]? = some x) (hx : Loc X.env.scope x) (hv : i ∈ vs) (hf : X.fn x = true ∨ X.env.scope.names.lookup x = some .local := by first | exact .inl rfl | exact .inr rfl) : PGd X G true vs (.Name x pos) (dgName i) := PG.weak (pg_name hN hi hx hf) fun v σ H Q q => by
  obtain ⟨F, I, ρ, d, P, R, r, h, k⟩ := q
  exact k _ _ h (R.setD (s := .d d) r) (wipe_set hv)
theorem g_nil : PGsd X G vs [] [] := PGs.weak pgs_nil fun us σ H Q q => by
  obtain ⟨F, I, ρ, ds, P, R, r, h, k⟩ := q
  cases r with
  | nil => exact ⟨rfl, k ρ σ h R rfl⟩
  | cons _ _ => exact h.elim
theorem g_cons (h1 : PGd X G true vs e g) (h2 : PGsd X G vs es gs) (hs : (assignEach (e :: es) X.env).map (·.2) = assign e X.env :: (assignEach es X.env).map (·.2) := by rfl) : PGsd X G vs (e :: es) (g :: gs) := PGs.weak (pgs_cons h1 h2 hs) fun us σ H Q q => by
  obtain ⟨F, I, ρ, ds, P, R, r, h, k⟩ := q
  cases r with
  | nil => exact h.elim
  | cons r rs =>
    refine ⟨_, _, rfl, F, I, ρ, _, _, R, r, h, fun ρ1 σ1 h1 R1 w1 => ?_⟩
    exact ⟨F, I, ρ1, _, P, R1, rs, h1, fun ρ2 σ2 h2 R2 w2 => k ρ2 σ2 h2 R2 (w2.trans w1)⟩
theorem g_tup {k : Nat} {n : Nat} (hc : X.calm = true) (h : PGsd X G vs es gs) (hl : gs.length = n) (hn : (assignEach es X.env).length = n := by rfl) (hst : (assignEach es X.env).findIdx? (·.1) = none := by rfl) : PGd X G false vs (.Tuple es k pos) (dgTup gs) := PG.weak (pg_tup (n := n) hc h hn hst) fun v σ H Q q => by
  obtain ⟨F, I, ρ, d, P, R, r, h, k⟩ := q
  obtain ⟨T, xs, ds, rfl, rfl, hT, hs⟩ : ItemT (pm X G) I H v d := by simpa [Item] using r
  refine ⟨T, xs, rfl, hT, ?_, F, I, ρ, ds, P, R, hs, h.2, k⟩
  rw [hs.length, h.1, hl]
theorem g_strong (h : PGd X G false vs e (dgTup gs)) : PGd X G true vs e (dgTup gs) := PG.weak h fun v σ H Q q => by
  obtain ⟨F, I, ρ, d, P, R, r, h, k⟩ := q
  refine ⟨F, I, ρ, d, P, R, ?_, h, k⟩
  have r : Dd (pm X G) I v d := by simpa [Item] using r
  cases d with
  | tuple ds => simpa [Item] using itemT_of R.sub r
  | _ => exact h.elim
end
end Dt

namespace Dt
open PySem PySem.Spec PyProof.Rows L2

theorem PI.weak {X : Cx} {tg e : Expr} {t t' : TI} (h : PI X tg e t) (w : ∀ σ H R, t' σ H R → t σ H fun J H1 => Big H1 → R J H1) : PI X tg e t' := ⟨fun pins s σ H R I q =>
  thn (h.run pins s σ H _ I (w σ H R q)) fun v s1 h1 => thn h1 fun itv s2 ⟨it, fp, tn, J, H', e, I2, T, st, f2, r⟩ => ⟨it, fp, tn, J, H', e, I2, T, st, f2, r (Inv.big I2)⟩⟩
abbrev DI := Rho → (List D → Rho → Prop) → (Exn → Rho → Prop) → Prop
def tI (p : Pm) (W : WX) (strong : Bool) (f : DI) : TI := fun σ H R => ∃ F I ρ P PX, Rel p F I H σ ρ ∧ f ρ P PX ∧
  (∀ ds ρ' F' I' H' J, P ds ρ' → Step F I H F' I' H' → Rel p F' I' H' σ ρ' → ItW p strong J F' I' H' ds → R J H') ∧ XEnd p W F I H σ PX
abbrev PId (X : Cx) (G : V → Nat → Option Addr → Prop) (W : WX) (strong : Bool) (tg e : Expr) (f : DI) : Prop := PI X tg e (tI (pm X G) W strong f)
def dItR1 (g : DA) : DI := fun ρ P PX => g ρ (fun os ρ1 => match os with
  | [.d (.int n)] => (-(2 ^ 62) ≤ n ∧ n < 2 ^ 62 ∧ n ≤ 16000000) ∧ P ((List.range n.toNat).map fun i => PyData.int (i : Nat)) ρ1
  | _ => False) PX
def dItR2 (g : DA) : DI := fun ρ P PX => g ρ (fun os ρ1 => match os with
  | [.d (.int m), .d (.int n)] => (-(2 ^ 62) ≤ m ∧ m < 2 ^ 62 ∧ -(2 ^ 62) ≤ n ∧ n < 2 ^ 62 ∧ n - m ≤ 16000000) ∧ P ((List.range (n - m).toNat).map fun i => PyData.int (m + (i : Nat))) ρ1
  | _ => False) PX
def dItR3 (g : DA) : DI := fun ρ P PX => g ρ (fun os ρ1 => match os with
  | [.d (.int m), .d (.int n), .d (.int (-1))] => (-(2 ^ 62) ≤ m ∧ m < 2 ^ 62 ∧ -(2 ^ 62) ≤ n ∧ n < 2 ^ 62 ∧ m - n ≤ 16000000) ∧ P ((List.range (m - n).toNat).map fun i => PyData.int (m - (i : Nat))) ρ1
  | _ => False) PX
section
variable {p : Pm} {F F' F0 : Lab} {I I' I0 H0 H1 H H' : Hp} {σ : L2.St} {ρ ρ' : Rho}
theorem itw_list {a : Addr} {ds : List D} {vs : List V} (h : ∀ F' I' H', Step F I H F' I' H' → Same I' H' → SqL p.K H' a vs) (r : DdAll p I vs ds) (z : vs.length ≤ sizeLine) : ItW p true (Itl p.K a) F I H ds where
  ex := by
    refine ⟨fun H => SqL p.K H a vs, YAt vs, by rw [← r.length]; exact walk_list, h, fun i H1 x H2 hi hy F1 I1 s1 s2 _ => ?_⟩
    obtain ⟨rfl, hx⟩ := hy
    obtain ⟨d, h1, h2⟩ := r.getV hx
    exact ⟨I1, d, h1, fun _ _ e => e, fun _ _ e => e, s2, fun _ e => .inl e, Dd.mono s1.inc h2⟩
  big := by rw [← r.length]; exact z
theorem itw_tup {a : Addr} {ds : List D} {vs : List V} (h : ∀ F' I' H', Step F I H F' I' H' → Same I' H' → SqT p.K H' a vs) (r : DdAll p I vs ds) (z : vs.length ≤ sizeLine) : ItW p true (Itt p.K a) F I H ds where
  ex := by
    refine ⟨fun H => SqT p.K H a vs, YAt vs, by rw [← r.length]; exact walk_tup, h, fun i H1 x H2 hi hy F1 I1 s1 s2 _ => ?_⟩
    obtain ⟨rfl, hx⟩ := hy
    obtain ⟨d, h1, h2⟩ := r.getV hx
    exact ⟨I1, d, h1, fun _ _ e => e, fun _ _ e => e, s2, fun _ e => .inl e, Dd.mono s1.inc h2⟩
  big := by rw [← r.length]; exact z
theorem itw_fn {n : Nat} {f : Nat → Int} {J : It} (w : Walk J n (fun _ => True) (YFn fun i => .int (f i))) (z : n ≤ sizeLine) : ItW p true J F I H ((List.range n).map fun i => PyData.int (f i)) where
  ex := by
    refine ⟨fun _ => True, YFn fun i => .int (f i), by rw [List.length_map, List.length_range]; exact w, fun _ _ _ _ _ => trivial, fun i H1 x H2 hi hy F1 I1 s1 s2 _ => ?_⟩
    obtain ⟨rfl, rfl⟩ := hy
    refine ⟨I1, .int (f i), ?_, fun _ _ e => e, fun _ _ e => e, s2, fun _ e => .inl e, .int _⟩
    rw [List.length_map, List.length_range] at hi
    simp [hi]
  big := by rw [List.length_map, List.length_range]; exact z
end
section
variable {X : Cx} {G : V → Nat → Option Addr → Prop} {W : WX} {pos pos' : Pos} {tg a b c : Expr} {fa : DE} {g : DA}
theorem i_r1 (hg : Gl X "range") (hm : X.mg "range" = none) (ha : PAd X G W [a] g) (hs : starEach [a] X.env = [(false, eval a X.env)] := by rfl) : PId X G W true tg (.Call (.Name "range" pos') [a] [] pos) (dItR1 g) := PI.weak (pi_range1 hg hm ha hs) fun σ H R q => by
  obtain ⟨F, I, ρ, P, PX, RR, f1, k, x⟩ := q
  have sl : (sizeLine : Nat) = 16777216 := sizeLine_eq
  refine ⟨F, I, ρ, _, PX, RR, f1, fun os ρ1 vs F1 I1 H1 f2 s1 R1 r1 => ?_, x⟩
  split at f2
  · cases r1 with
    | cons r rr =>
      cases rr
      cases r
      refine ⟨_, rfl, f2.1.1, f2.1.2.1, fun _ => k _ ρ1 F1 I1 H1 _ f2.2 s1 R1 ?_⟩
      have w := walk_range (lo := 0) (n := (‹Int›).toNat)
      refine itw_fn (f := fun i => ((i : Nat) : Int)) ⟨w.goes, w.stops, fun i H x H' h1 h2 h3 => ?_⟩ (by have := f2.1.2.2; omega)
      obtain ⟨e1, e2⟩ := w.yields i H x H' h1 h2 h3
      exact ⟨e1, by rw [e2]; simp⟩
  · exact f2.elim
theorem i_r2 (hg : Gl X "range") (hm : X.mg "range" = none) (ha : PAd X G W [a, b] g) (hs : starEach [a, b] X.env = [(false, eval a X.env), (false, eval b X.env)] := by rfl) (hs2 : starEach [b] X.env = [(false, eval b X.env)] := by rfl) :
    PId X G W true tg (.Call (.Name "range" pos') [a, b] [] pos) (dItR2 g) := PI.weak (pi_range2 hg hm ha hs hs2) fun σ H R q => by
  obtain ⟨F, I, ρ, P, PX, RR, f1, k, x⟩ := q
  have sl : (sizeLine : Nat) = 16777216 := sizeLine_eq
  refine ⟨F, I, ρ, _, PX, RR, f1, fun os ρ1 vs F1 I1 H1 f2 s1 R1 r1 => ?_, x⟩
  split at f2
  · rename_i m n
    cases r1 with
    | cons r rr =>
      cases rr with
      | cons r' rr =>
        cases rr
        cases r
        cases r'
        refine ⟨m, n, rfl, ⟨f2.1.1, f2.1.2.1, f2.1.2.2.1, f2.1.2.2.2.1⟩, fun _ => k _ ρ1 F1 I1 H1 _ f2.2 s1 R1 ?_⟩
        exact itw_fn (f := fun i => m + ((i : Nat) : Int)) walk_range (by have := f2.1.2.2.2.2; omega)
  · exact f2.elim
theorem i_r3 (hg : Gl X "range") (hm : X.mg "range" = none) (ha : PAd X G W [a, b, c] g) (hs : starEach [a, b, c] X.env = (false, eval a X.env) :: starEach [b, c] X.env := by rfl) (hpl : (backTo pos (starEach [b, c] X.env)).any (·.1) = false := by rfl) :
    PId X G W true tg (.Call (.Name "range" pos') [a, b, c] [] pos) (dItR3 g) := PI.weak (pi_range3 hg hm ha hs hpl) fun σ H R q => by
  obtain ⟨F, I, ρ, P, PX, RR, f1, k, x⟩ := q
  have sl : (sizeLine : Nat) = 16777216 := sizeLine_eq
  refine ⟨F, I, ρ, _, PX, RR, f1, fun os ρ1 vs F1 I1 H1 f2 s1 R1 r1 => ?_, x⟩
  split at f2
  · rename_i m n
    cases r1 with
    | cons r rr =>
      cases rr with
      | cons r' rr =>
        cases rr with
        | cons r'' rr =>
          cases rr
          cases r
          cases r'
          cases r''
          refine ⟨m, n, -1, (m - n).toNat, rfl, RgC.neg f2.1.1 f2.1.2.1 f2.1.2.2.1 f2.1.2.2.2.1, fun _ => k _ ρ1 F1 I1 H1 _ f2.2 s1 R1 ?_⟩
          have w := walk_rangeC (lo := m) (c := -1) (n := (m - n).toNat)
          refine itw_fn (f := fun i => m - ((i : Nat) : Int)) ⟨w.goes, w.stops, fun i H x H' h1 h2 h3 => ?_⟩ (by have := f2.1.2.2.2.2; omega)
          obtain ⟨e1, e2⟩ := w.yields i H x H' h1 h2 h3
          have e3 : m + ((i : Nat) : Int) * (-1) = m - ((i : Nat) : Int) := by omega
          exact ⟨e1, by rw [e2]; show V.int _ = V.int _; rw [e3]⟩
  · exact f2.elim
end

/-! ### for -/
def forGo0 (g : DG) (b : DS) (E : DEnds) : List D → Rho → Prop
  | [], ρ => E.nx ρ
  | d :: ds, ρ => g d ρ fun ρ1 => b { E with nx := forGo0 g b E ds, ct := forGo0 g b E ds, bk := E.nx } ρ1
@[irreducible] def forGo (g : DG) (b : DS) (E : DEnds) (ds : List D) (ρ : Rho) : Prop := forGo0 g b E ds ρ
theorem forGo_nilE (g : DG) (b : DS) (E : DEnds) (ρ : Rho) : forGo g b E [] ρ = E.nx ρ := by unfold forGo; rfl
theorem forGo_consE (g : DG) (b : DS) (E : DEnds) (d : D) (ds : List D) (ρ : Rho) : forGo g b E (d :: ds) ρ = g d ρ fun ρ1 => b { E with nx := forGo g b E ds, ct := forGo g b E ds, bk := E.nx } ρ1 := by
  have e : forGo g b E ds = forGo0 g b E ds := by funext ρ; unfold forGo; rfl
  rw [e]; unfold forGo; rfl
def dFor (i : DI) (g : DG) (b : DS) : DS := fun E ρ => i ρ (fun ds ρ1 => forGo g b E ds ρ1) E.ex
section
variable {p : Pm} {W : WX}
theorem w_for {strong : Bool} {vs : List Nat} {i : DI} {g : DG} {b : DS} (D : Ends) (σ : L2.St) (H : Hp) (q : tS p W (dFor i g b) D σ H) : tFor (tI p W strong i) (tG p strong vs g) (tS p W b) D σ H := by
  obtain ⟨F, I, ρ, E, R, f, k⟩ := q
  refine ⟨F, I, ρ, _, E.ex, R, f, fun ds ρ1 F1 I1 H1 J h s1 R1 w => ?_, k.xend⟩
  obtain ⟨Gg, Y, hw, hG, hY⟩ := w.ex
  have k1 := k.later s1
  refine for_it hw (fun n σ' H' => ∃ F' I' ρ', Step F1 I1 H1 F' I' H' ∧ Rel p F' I' H' σ' ρ' ∧ forGo g b E (ds.drop n) ρ') ⟨F1, I1, ρ1, Step.refl .., R1, h⟩
    (fun n σ' H' _ ⟨F', I', ρ', s', R', _⟩ => hG F' I' H' s' R'.sub) (fun n x σ' H2 H3 hn ⟨F', I', ρ', s', R', q⟩ hy => ?_) fun σ' H' ⟨F', I', ρ', s', R', q⟩ => ?_
  · obtain ⟨I3, d, hd, a1, a2, a3, a4, it⟩ := hY n H2 x H3 hn hy F' I' s' R'.sub R'.lab
    have R3 := R'.more a1 a2 a3 a4
    have s3 := s'.trans (Step.more R' a1 a2 a4)
    have e : ds.drop n = d :: ds.drop (n + 1) := by
      obtain ⟨hl, hd⟩ := List.getElem?_eq_some_iff.mp hd
      rw [← hd]; exact List.drop_eq_getElem_cons hl
    rw [e, forGo_consE] at q
    refine ⟨F', I3, ρ', d, _, R3, it, q, fun ρ4 σ4 q4 R4 _ => ?_⟩
    refine ⟨F', I3, ρ4, _, R4, q4, ⟨fun ρ5 σ5 F5 I5 H5 h5 s5 R5 => ⟨F5, I5, ρ5, s3.trans s5, R5, h5⟩, fun ρ5 σ5 F5 I5 H5 h5 s5 R5 => (k1.later s3).nx ρ5 σ5 F5 I5 H5 h5 s5 R5, fun ρ5 σ5 F5 I5 H5 h5 s5 R5 => ⟨F5, I5, ρ5, s3.trans s5, R5, h5⟩, (k1.later s3).rt, (k1.later s3).ex⟩⟩
  · rw [List.drop_length, forGo_nilE] at q
    exact k1.nx ρ' σ' F' I' H' q s' R'
end
/-! ### comprehensions -/
def onlyd (o : O) (k : D → Prop) : Prop := match o with
  | .d d => k d
  | _ => False
def wipeR (ρ : Rho) : List Nat → Rho
  | [] => ρ
  | v :: vs => (wipeR ρ vs).set v none
abbrev noX : Exn → Rho → Prop := fun _ _ => False
def compGo0 (g : DG) (t : DT) (e : DE) (vs : List Nat) (P : List D → Rho → Prop) : List D → List D → Rho → Prop
  | [], acc, ρ => P acc ρ
  | d :: ds, acc, ρ => g d ρ fun ρ1 => t ρ1 (fun b ρ2 => (b = true → e ρ2 (fun o ρ3 => onlyd o fun d' => compGo0 g t e vs P ds (acc ++ [d']) (wipeR ρ3 vs)) noX) ∧ (b = false → compGo0 g t e vs P ds acc (wipeR ρ2 vs))) noX
@[irreducible] def compGo (g : DG) (t : DT) (e : DE) (vs : List Nat) (P : List D → Rho → Prop) (ds acc : List D) (ρ : Rho) : Prop := compGo0 g t e vs P ds acc ρ
theorem compGo_nilE (g : DG) (t : DT) (e : DE) (vs : List Nat) (P : List D → Rho → Prop) (acc : List D) (ρ : Rho) : compGo g t e vs P [] acc ρ = P acc ρ := by unfold compGo; rfl
theorem compGo_consE (g : DG) (t : DT) (e : DE) (vs : List Nat) (P : List D → Rho → Prop) (d : D) (ds acc : List D) (ρ : Rho) : compGo g t e vs P (d :: ds) acc ρ = g d ρ fun ρ1 => t ρ1 (fun b ρ2 => (b = true → e ρ2 (fun o ρ3 => onlyd o fun d' => compGo g t e vs P ds (acc ++ [d']) (wipeR ρ3 vs)) noX) ∧ (b = false → compGo g t e vs P ds acc (wipeR ρ2 vs))) noX := by
  have q : ∀ acc ρ, compGo g t e vs P ds acc ρ = compGo0 g t e vs P ds acc ρ := by intro acc ρ; unfold compGo; rfl
  simp only [q]; unfold compGo; rfl
def dComp (i : DI) (g : DG) (t : DT) (e : DE) (vs : List Nat) : DE := fun ρ P PX => i ρ (fun ds ρ1 => compGo g t e vs (fun acc ρ2 => P (.tmp (.lst acc)) (backR ρ1 ρ2 vs)) ds [] (wipeR ρ1 vs)) PX
def dYes : DT := fun ρ P _ => P true ρ
theorem wipeR_length (ρ : Rho) : ∀ vs : List Nat, (wipeR ρ vs).length = ρ.length
  | [] => rfl
  | v :: vs => by unfold wipeR; rw [List.length_set, wipeR_length ρ vs]
theorem wipeR_some {ρ : Rho} {i : Nat} {x : S} : ∀ {vs : List Nat}, (wipeR ρ vs)[i]? = some (some x) → ρ[i]? = some (some x) ∧ i ∉ vs
  | [], h => ⟨h, by simp⟩
  | v :: vs, h => by
    unfold wipeR at h
    by_cases hi : v = i
    · subst hi
      by_cases hv : v < (wipeR ρ vs).length
      · rw [List.getElem?_set_self hv] at h; cases h
      · rw [List.getElem?_eq_none (by simpa using hv)] at h; cases h
    · rw [List.getElem?_set_ne hi] at h
      obtain ⟨h1, h2⟩ := wipeR_some h
      exact ⟨h1, by simp only [List.mem_cons, not_or]; exact ⟨fun e => hi e.symm, h2⟩⟩
section
variable {p : Pm} {F F' F0 : Lab} {I I' I0 H0 H1 H H' : Hp} {σ σ' : L2.St} {ρ ρ' ρ0 : Rho} {W : WX}
theorem Rel.wp (R : Rel p F I H σ ρ) (vs : List Nat) : Rel p F I H (wipe σ vs) (wipeR ρ vs) := by
  refine ⟨R.sub, R.lab, by rw [wipeR_length, wipe_length]; exact R.len, fun i s e => ?_⟩
  obtain ⟨e1, e2⟩ := wipeR_some e
  obtain ⟨v, h1, h2⟩ := R.slot i s e1
  exact ⟨v, by rw [wipe_keep e2]; exact h1, h2⟩
theorem Rel.wiped {vs : List Nat} (R : Rel p F I H σ' ρ') (h : wipe σ' vs = wipe σ vs) : Rel p F I H (wipe σ vs) (wipeR ρ' vs) := by
  rw [← h]; exact R.wp vs
theorem wipe_wipe {vs : List Nat} : wipe (wipe σ vs) vs = wipe σ vs := by
  apply List.ext_getElem?
  intro m
  rw [wipe_get, wipe_get, wipe_length]
  split <;> rfl
/-- an object that nobody has, changed -/
theorem Rel.touch {D : Addr} {x : HO} (R : Rel p F I H σ ρ) (h1 : F D = none) (h2 : I D = none) : Rel p F I (upd H D x) σ ρ := by
  have hne : ∀ b j, F b = some j → b ≠ D := fun b j z q => by rw [q, h1] at z; cases z
  have hi : ∀ b y, I b = some y → b ≠ D := fun b y z q => by rw [q, h2] at z; cases z
  refine ⟨fun b y e => by rw [upd_ne (hi b y e)]; exact R.sub b y e, fun b j e => ⟨(R.lab b j e).1, by rw [upd_ne (hne b j e)]; exact (R.lab b j e).2⟩, R.len, fun k sl e => ?_⟩
  obtain ⟨v, h3, h4⟩ := R.slot k sl e
  refine ⟨v, h3, ?_⟩
  have own : ∀ {b : Addr} {c : C}, Own p F I H (some k) (fun _ => True) b c → Own p F I (upd H D x) (some k) (fun _ => True) b c := fun {b c} ⟨fp, g1, g2⟩ =>
    ⟨fp, g1.keep (fun z hz => upd_ne (hne z k (g2 z hz).1)) (fun _ _ e => e), fun z hz => ⟨(g2 z hz).1, (g2 z hz).2.1, trivial, by rw [upd_ne (hne z k (g2 z hz).1)]; exact (g2 z hz).2.2.2⟩⟩
  cases sl with
  | d d => exact h4
  | own c => obtain ⟨a, e, h4⟩ := h4; exact ⟨a, e, own h4⟩
  | lent a c => exact ⟨h4.1, own h4.2⟩
  | exc x => exact h4
theorem Step.touch {D : Addr} {x : HO} (s : Step F0 I0 H0 F I H) (h : H0 D = none) : Step F0 I0 H0 F I (upd H D x) :=
  ⟨fun b y e n => by rw [upd_ne (ne_of_none e h)]; exact s.keep b y e n, s.inc, s.newI, s.lab, fun b e => by
    by_cases hb : b = D
    · subst hb; exact absurd h e
    · rw [upd_ne hb]; exact s.there b e⟩
theorem Step.nobody {D : Addr} (s : Step F0 I0 H0 F I H) (h1 : F0 D = none) (h2 : I0 D = none) (h3 : H0 D ≠ none) : F D = none ∧ I D = none := by
  refine ⟨?_, ?_⟩
  · cases q : F D with
    | none => rfl
    | some j =>
      rcases s.lab D j q with z | z
      · rw [h1] at z; cases z
      · exact absurd z h3
  · cases q : I D with
    | none => rfl
    | some y =>
      rcases s.newI D (by rw [q]; simp) with z | z | z
      · exact absurd h2 z
      · exact absurd z h3
      · exact absurd h1 z
theorem w_comp {strong : Bool} {vs : List Nat} {i : DI} {g : DG} {t : DT} {e : DE} (σ : L2.St) (H : Hp) (Q : VK) (q : tE p W (dComp i g t e vs) σ H Q) : tLc (tI p W strong i) (tG p strong vs g) (tT p W0 t) (tE p W0 e) vs σ H Q := by
  obtain ⟨F, I, ρ, P, PX, R, f, k, x⟩ := q
  refine ⟨F, I, ρ, _, PX, R, f, fun ds ρ1 F1 I1 H1 J h s1 R1 w D nD => ?_, x⟩
  obtain ⟨Gg, Y, hw, hG, hY⟩ := w.ex
  have R1' := (R1.newT (x := .lst []) nD).1
  refine lc_it hw (fun n H' => ∃ F' I' ρ' acc av, Step F1 I1 H1 F' I' H' ∧ Rel p F' I' H' (wipe σ vs) ρ' ∧ F' D = none ∧ I' D = none ∧ H' D = some (.lst av) ∧ DdAll p I' av acc ∧ av.length ≤ n ∧
      compGo g t e vs (fun acc ρ2 => P (.tmp (.lst acc)) (backR ρ1 ρ2 vs)) (ds.drop n) acc ρ') ?_ (fun n H' _ ⟨F', I', ρ', _, _, s', R', _⟩ => hG F' I' H' s' R'.sub) (fun n y H2 H3 hn ⟨F', I', ρ', acc, av, s', R', fD, iD, eD, r', hl, q⟩ hy => ?_) fun H' ⟨F', I', ρ', acc, av, s', R', fD, iD, eD, r', hl, q⟩ => ?_
  · exact ⟨F1, I1, _, [], [], (Step.refl ..).touch nD, R1'.wp vs, R1.lab0 nD, R1.fresh nD, upd_same, .nil, Nat.le_refl _, h⟩
  · obtain ⟨I3, d, hd, a1, a2, a3, a4, it⟩ := hY n H2 y H3 hn hy F' I' s' R'.sub R'.lab
    have R3 := R'.more a1 a2 a3 a4
    have sm := Step.more R' a1 a2 a4
    have s3 := s'.trans sm
    have nD2 : H2 D ≠ none := by rw [eD]; simp
    obtain ⟨_, iD3⟩ := sm.nobody fD iD nD2
    have eD3 : H3 D = some (.lst av) := a1 _ _ eD
    have nD3 : H3 D ≠ none := by rw [eD3]; simp
    have e1 : ds.drop n = d :: ds.drop (n + 1) := by
      obtain ⟨hl, hd⟩ := List.getElem?_eq_some_iff.mp hd
      rw [← hd]; exact List.drop_eq_getElem_cons hl
    rw [e1, compGo_consE] at q
    have hbig : av.length < sizeLine := by have := w.big; omega
    refine ⟨F', I3, ρ', d, _, R3, it, q, fun ρ4 σ4 q4 R4 w4 => ⟨w4.trans wipe_wipe, ?_⟩⟩
    have ww : wipe σ4 vs = wipe σ vs := by rw [w4, wipe_wipe]
    refine ⟨F', I3, ρ4, _, _, R4, q4, fun b ρ5 F5 I5 H5 q5 s5 R5 => ?_, fun _ _ _ _ _ _ _ z => z.elim⟩
    cases b with
    | false =>
      obtain ⟨f5, i5⟩ := s5.nobody fD iD3 nD3
      exact iteF ⟨F5, I5, _, acc, av, s3.trans s5, R5.wiped ww, f5, i5, s5.keep _ _ eD3 fD, DdAll.mono s5.inc (DdAll.mono a2 r'), by omega, q5.2 rfl⟩
    | true =>
      refine iteT ⟨F5, I5, ρ5, _, _, R5, q5.1 rfl, fun o ρ6 v F6 I6 H6 q6 s6 R6 r6 => ?_, fun _ _ _ _ _ _ _ z => z.elim⟩
      unfold onlyd at q6
      split at q6
      · rename_i d'
        have s56 := s5.trans s6
        obtain ⟨f6, i6⟩ := s56.nobody fD iD3 nD3
        have eD6 : H6 D = some (.lst av) := s56.keep _ _ eD3 fD
        refine ⟨av, eD6, hbig, F6, I6, _, acc ++ [d'], av ++ [v], (s3.trans s56).touch nD, (R6.wiped ww).touch f6 i6, f6, i6, upd_same, DdAll.append (DdAll.mono s56.inc (DdAll.mono a2 r')) (.cons r6 .nil), by rw [List.length_append]; simp; omega, q6⟩
      · exact q6.elim
  · rw [List.drop_length, compGo_nilE] at q
    refine k _ _ _ F' I' H' q (s1.trans s') (R1.back s'.inc R') ⟨D, rfl, [D], ⟨rfl, av, eD, r'⟩, fun b hb => ?_⟩
    have e : b = D := by simpa using hb
    subst e
    exact ⟨fD, iD, s1.old nD, by rw [eD]; simp⟩
end
end Dt

namespace Dt
open PySem PySem.Spec PyProof.Rows L2

/-! ### promises of defs -/
abbrev DSp := List S → (O → List S → Prop) → (Exn → List S → Prop) → Prop
def spOf (p : Pm) (sp : DSp) : Sp := fun vs H Q E => ∃ F I os P PX, Rel p F I H (vs.map some) (os.map some) ∧ (∀ a j, F a = some j → ∃ b c, os[j]? = some (.lent b c)) ∧ sp os P PX ∧
  (∀ o os' v F' I' H', P o os' → Step F I H F' I' H' → Rel p F' I' H' (vs.map some) (os'.map some) → ResOk p F' I' H H' [] v o → Q v H') ∧
  (∀ x os' cls d F' I' H', PX x os' → Step F I H F' I' H' → Rel p F' I' H' (vs.map some) (os'.map some) → ExOk p I' x cls d → E cls d H')
def rho0 (n : Nat) (os : List S) : Rho := os.map some ++ List.replicate (n - os.length) none
/-- the arguments as they stand behind the body: what was lent, changed -/
def backs : List S → Rho → Option (List S)
  | [], _ => some []
  | .d d :: os, _ :: ρ => (backs os ρ).map (.d d :: ·)
  | .exc x :: os, _ :: ρ => (backs os ρ).map (.exc x :: ·)
  | .lent a _ :: os, some (.lent b c) :: ρ => if a = b then (backs os ρ).map (.lent a c :: ·) else none
  | _, _ => none
def bkK : List S → Rho → (List S → Prop) → Prop
  | [], _, k => k []
  | .d d :: os, _ :: ρ, k => bkK os ρ fun os' => k (.d d :: os')
  | .exc x :: os, _ :: ρ, k => bkK os ρ fun os' => k (.exc x :: os')
  | .lent a _ :: os, some (.lent b c) :: ρ, k => a = b ∧ bkK os ρ fun os' => k (.lent a c :: os')
  | _, _, _ => False
def rtK (ρ : Rho) (o : O) (k : O → Prop) : Prop := match o with
  | .d d => k (.d d)
  | .tmp c => k (.tmp c)
  | .loc j => (match ρ[j]? with
    | some (some (.own c)) => k (.tmp c)
    | _ => False)
  | .exc _ => False
def endsOf (os : List S) (P : O → List S → Prop) (PX : Exn → List S → Prop) : DEnds where
  nx ρ := bkK os ρ fun os' => P (.d .none) os'
  rt o ρ := bkK os ρ fun os' => rtK ρ o fun r => P r os'
  bk _ := False
  ct _ := False
  ex x ρ := bkK os ρ fun os' => PX x os'
section
variable {p : Pm} {F F' F0 : Lab} {I I' I0 H0 H1 H H' : Hp} {σ σ' : L2.St} {ρ ρ' ρ0 : Rho} {W : WX}
theorem bkK_of : ∀ {os : List S} {ρ : Rho} {k : List S → Prop}, bkK os ρ k → ∃ os', backs os ρ = some os' ∧ k os'
  | [], _, _, h => ⟨[], rfl, h⟩
  | .d d :: os, [], _, h => h.elim
  | .d d :: os, r :: ρ, k, h => by
    obtain ⟨os', h1, h2⟩ := bkK_of (os := os) (ρ := ρ) h
    exact ⟨.d d :: os', by simp [backs, h1], h2⟩
  | .own c :: os, ρ, _, h => by cases ρ <;> exact h.elim
  | .exc c :: os, [], _, h => h.elim
  | .exc x :: os, r :: ρ, k, h => by
    obtain ⟨os', h1, h2⟩ := bkK_of (os := os) (ρ := ρ) h
    exact ⟨.exc x :: os', by simp [backs, h1], h2⟩
  | .lent a c0 :: os, [], _, h => h.elim
  | .lent a c0 :: os, none :: ρ, _, h => h.elim
  | .lent a c0 :: os, some (.d _) :: ρ, _, h => h.elim
  | .lent a c0 :: os, some (.own _) :: ρ, _, h => h.elim
  | .lent a c0 :: os, some (.exc _) :: ρ, _, h => h.elim
  | .lent a c0 :: os, some (.lent b c) :: ρ, k, h => by
    obtain ⟨e, h⟩ := h
    subst e
    obtain ⟨os', h1, h2⟩ := bkK_of (os := os) (ρ := ρ) h
    exact ⟨.lent a c :: os', by simp [backs, h1], h2⟩
theorem backs_ok : ∀ {os : List S} {ρ : Rho} {os' : List S}, backs os ρ = some os' → os'.length = os.length ∧ ∀ (i : Nat) s, os'[i]? = some s →
    ((∃ d, s = .d d ∧ os[i]? = some (.d d)) ∨ (∃ x, s = .exc x ∧ os[i]? = some (.exc x))) ∨ (∃ a c0 c, s = .lent a c ∧ os[i]? = some (.lent a c0) ∧ ρ[i]? = some (some (.lent a c)))
  | [], ρ, os', h => by
    cases h; exact ⟨rfl, fun i s e => by simp at e⟩
  | .d d :: os, [], os', h => by simp [backs] at h
  | .d d :: os, r :: ρ, os', h => by
    simp only [backs, Option.map_eq_some_iff] at h
    obtain ⟨os2, h1, rfl⟩ := h
    obtain ⟨h2, h3⟩ := backs_ok h1
    refine ⟨by simp [h2], fun i s e => ?_⟩
    cases i with
    | zero => simp at e; subst e; exact .inl (.inl ⟨d, rfl, rfl⟩)
    | succ i => simpa using h3 i s (by simpa using e)
  | .own c :: os, ρ, os', h => by cases ρ <;> simp [backs] at h
  | .exc c :: os, [], os', h => by simp [backs] at h
  | .exc x :: os, r :: ρ, os', h => by
    simp only [backs, Option.map_eq_some_iff] at h
    obtain ⟨os2, h1, rfl⟩ := h
    obtain ⟨h2, h3⟩ := backs_ok h1
    refine ⟨by simp [h2], fun i s e => ?_⟩
    cases i with
    | zero => simp at e; subst e; exact .inl (.inr ⟨x, rfl, rfl⟩)
    | succ i => simpa using h3 i s (by simpa using e)
  | .lent a c0 :: os, ρ, os', h => by
    unfold backs at h
    split at h
    · rename_i h0; cases h0
    · rename_i h0; cases h0
    · rename_i h0; cases h0
    · rename_i a' c0' os1 b c ρ1 h0
      cases h0
      split at h
      · rename_i e0
        subst e0
        simp only [Option.map_eq_some_iff] at h
        obtain ⟨os2, h1, rfl⟩ := h
        obtain ⟨h2, h3⟩ := backs_ok h1
        refine ⟨by simp [h2], fun i s e => ?_⟩
        cases i with
        | zero => simp at e; subst e; exact .inr ⟨a, c0, c, rfl, rfl, rfl⟩
        | succ i => simpa using h3 i s (by simpa using e)
      · cases h
    · cases h
theorem map_some_get {α : Type} {l : List α} {i : Nat} {x : α} : (l.map some)[i]? = some (some x) ↔ l[i]? = some x := by
  rw [List.getElem?_map]
  cases l[i]? <;> simp
/-- behind the body: the arguments' slots -/
theorem Rel.args {vs : List V} {os os' : List S} (R0 : Rel p F0 I0 H0 (vs.map some) (os.map some)) (s : Same I0 I) (R : Rel p F I H σ ρ) (h : backs os ρ = some os') : Rel p F I H (vs.map some) (os'.map some) := by
  obtain ⟨h1, h2⟩ := backs_ok h
  have hl := R0.len
  rw [List.length_map, List.length_map] at hl
  refine ⟨R.sub, R.lab, by rw [List.length_map, List.length_map, h1, hl], fun i sl e => ?_⟩
  rw [map_some_get] at e
  rcases h2 i sl e with (⟨d, rfl, e0⟩ | ⟨x, rfl, e0⟩) | ⟨a, c0, c, rfl, e0, e1⟩
  · obtain ⟨v, h3, h4⟩ := R0.slot i (.d d) (map_some_get.mpr e0)
    exact ⟨v, h3, Dd.mono s h4⟩
  · obtain ⟨v, h3, d, g, h4⟩ := R0.slot i (.exc x) (map_some_get.mpr e0)
    exact ⟨v, h3, d, g, h4.mono s⟩
  · obtain ⟨v, h3, h4⟩ := R0.slot i (.lent a c0) (map_some_get.mpr e0)
    obtain ⟨u, h5, h6⟩ := R.slot i (.lent a c) e1
    exact ⟨v, h3, h4.1, h6.2⟩
theorem rel_start {vs : List V} {os : List S} (N : List Str) (R : Rel p F I H (vs.map some) (os.map some)) : Rel p F I H (L2.start N vs) (rho0 N.length os) := by
  have hl := R.len
  rw [List.length_map, List.length_map] at hl
  refine ⟨R.sub, R.lab, by unfold rho0 L2.start; simp [hl], fun i s e => ?_⟩
  have lt : i < os.length := by
    refine Nat.lt_of_not_le fun z => ?_
    unfold rho0 at e
    rw [List.getElem?_append_right (by simpa using z)] at e
    have := List.mem_of_getElem? e
    simp at this
  unfold rho0 at e
  rw [List.getElem?_append_left (by simpa using lt)] at e
  obtain ⟨v, h1, h2⟩ := R.slot i s e
  refine ⟨v, ?_, h2⟩
  unfold L2.start
  rw [List.getElem?_append_left (by simp; omega)]
  exact h1
end

section
variable {P : Program} {w : World} {K : PySem.W.Frag} {mg : Str → Option Value} {base : Heap}
/-- a body's data reading gives the def's promise -/
theorem body_ok {p : Pm} {N : List Str} {vs : List V} {H : Hp} {Q : VK} {E : XK} {sp : DSp} {b : DS} (hb : ∀ os PP PX, sp os PP PX → b (endsOf os PP PX) (rho0 N.length os)) (h : spOf p sp vs H Q E) :
    tS p (fun cls d _ H => E cls d H) b { nx := fun _ H' => Q .non H', rt := Q } (L2.start N vs) H := by
  obtain ⟨F, I, os, PP, PX, R, hF, hsp, k, kx⟩ := h
  refine ⟨F, I, _, _, rel_start N R, hb os PP PX hsp, ⟨fun ρ' σ' F' I' H' h s' R' => ?_, fun _ _ _ _ _ h => h.elim, fun _ _ _ _ _ h => h.elim, fun o ρ' v σ' F' I' H' h s' R' r' => ?_, fun x ρ' cls d σ' F' I' H' h s' R' e => ?_⟩⟩
  · obtain ⟨os', e, h⟩ := bkK_of h
    exact k _ os' .non F' I' H' h s' (R.args s'.inc R' e) .non
  · obtain ⟨os', e, h⟩ := bkK_of h
    have Ra := R.args s'.inc R' e
    cases o with
    | d d => exact k _ os' v F' I' H' h s' Ra r'
    | tmp c => exact k _ os' v F' I' H' h s' Ra r'
    | exc x => exact h.elim
    | loc j =>
      have h : (match ρ'[j]? with | some (some (.own c)) => PP (.tmp c) os' | _ => False) := h
      split at h
      · rename_i c e0
        obtain ⟨u, h1, a, rfl, fp, h2, h3⟩ := R'.slot j _ e0
        have hv : v = .ref a := by
          have r : σ'[j]? = some (some v) := r'
          rw [r] at h1; cases h1; rfl
        subst hv
        let F2 : Lab := fun b => if F' b = some j then none else F' b
        have hF2 : ∀ b i, F2 b = some i → F' b = some i ∧ i ≠ j := fun b i z => by
          have z : (if F' b = some j then none else F' b) = some i := z
          split at z
          · cases z
          · rename_i n
            exact ⟨z, fun y => n (by rw [z, y])⟩
        have hF3 : ∀ b i, F' b = some i → i ≠ j → F2 b = some i := fun b i z n => by
          show (if F' b = some j then none else F' b) = some i
          rw [if_neg (by rw [z]; intro y; cases y; exact n rfl)]; exact z
        have nl : ∀ b c0, os[j]? ≠ some (.lent b c0) := fun b c0 z => by
          obtain ⟨hl, hb⟩ := backs_ok e
          have hj : j < os'.length := by rw [hl]; exact (List.getElem?_eq_some_iff.mp z).1
          rcases hb j os'[j] (List.getElem?_eq_getElem hj) with (⟨d, _, y⟩ | ⟨x, _, y⟩) | ⟨a, c0, c, _, _, y⟩
          · rw [y] at z; cases z
          · rw [y] at z; cases z
          · rw [y] at e0; cases e0
        refine k _ os' _ F2 I' H' h ⟨s'.keep, s'.inc, s'.newI, fun b i z => s'.lab b i (hF2 b i z).1, s'.there⟩ ⟨Ra.sub, fun b i z => Ra.lab b i (hF2 b i z).1, Ra.len, fun i sl z => ?_⟩ ⟨a, rfl, fp, h2, fun b hb => ?_⟩
        · obtain ⟨u, g1, g2⟩ := Ra.slot i sl z
          refine ⟨u, g1, ?_⟩
          have own : ∀ {b : Addr} {c : C}, i ≠ j → Own p F' I' H' (some i) (fun _ => True) b c → Own p F2 I' H' (some i) (fun _ => True) b c := fun {b c} n ⟨fp', y1, y2⟩ =>
            ⟨fp', y1, fun x hx => ⟨hF3 x i (y2 x hx).1 n, (y2 x hx).2⟩⟩
          obtain ⟨hl, hb⟩ := backs_ok e
          rcases hb i sl (map_some_get.mp z) with (⟨d, rfl, y⟩ | ⟨x, rfl, y⟩) | ⟨a', c0, c', rfl, y, _⟩
          · exact g2
          · exact g2
          · refine ⟨g2.1, own (fun q => ?_) g2.2⟩
            subst q
            exact nl _ _ y
        · obtain ⟨y1, y2, _, y4⟩ := h3 b hb
          refine ⟨?_, y2, ?_, y4⟩
          · show (if F' b = some j then none else F' b) = none
            rw [if_pos y1]
          · rcases s'.lab b j y1 with z | z
            · obtain ⟨b', c', z⟩ := hF b j z
              exact absurd z (nl _ _)
            · exact z
      · exact h.elim
  · obtain ⟨os', e0, h⟩ := bkK_of h
    exact kx x os' cls d F' I' H' h s' (R.args s'.inc R' e0) e
theorem fn_dt {x qual : Str} {st : Stmt} {f : Addr} {fd : FuncData} {N ps : List Str} {k : Nat} {sp : DSp} {b : DS} (F : Fun K x qual st f fd) (hS : FnScope N ps (defScope st)) (hl : ∀ os PP PX, sp os PP PX → os.length = ps.length)
    (hd : ∀ (cdv : Value) (A : Around) (outer : List Env) (s : Shared) (H : Hp) (E : XK), Room k (A.deeper (envOfC qual (defScope st) s.heap.objs.size f cdv)) →
      PSsd (cxOf (L2.CX P w) P w K mg base N qual (defScope st) f cdv A outer s H E) noG (fun cls d _ H => E cls d H) (defBody st) b)
    (hb : ∀ os PP PX, sp os PP PX → b (endsOf os PP PX) (rho0 N.length os)) : FnOk P w K mg base (L2.CX P w) (k + 1) f fd ps (spOf ⟨K, mg, noG⟩ sp) := by
  refine F.okX hS (fun vs H Q E h => ?_) (fun cdv A outer s H vs Q E hr h => ⟨_, hd cdv A outer s H E hr, body_ok hb h⟩)
  obtain ⟨F, I, os, PP, PX, R, hF, hsp, _⟩ := h
  have e := R.len
  rw [List.length_map, List.length_map] at e
  rw [← hl os PP PX hsp, e]
end

/-! ### calls of defs -/
/-- all arguments are data -/
def dCall (sp : DSp) (g : DA) : DE := fun ρ P PX => g ρ (fun os ρ1 => onlyK os fun ds => sp (ds.map S.d) (fun o _ => P o ρ1) (fun x _ => PX x ρ1)) PX
/-- the object of slot j is lent as the first argument -/
def putC (ρ : Rho) (j : Nat) (c : C) : Rho := match ρ[j]? with
  | some (some (.own _)) => ρ.set j (some (.own c))
  | some (some (.lent a _)) => ρ.set j (some (.lent a c))
  | _ => ρ
def lentK (ρ : Rho) (j : Nat) (k : Addr → C → Prop) : Prop := match ρ[j]? with
  | some (some (.own c)) => ∀ a, k a c
  | some (some (.lent a c)) => k a c
  | _ => False
def backC (os' : List S) (k : C → Prop) : Prop := match os' with
  | .lent _ c :: _ => k c
  | _ => False
def dCallM (sp : DSp) (g : DA) : DE := fun ρ P PX => g ρ (fun os ρ1 => match os with
  | .loc j :: os2 => onlyK os2 fun ds => lentK ρ1 j fun a c => sp (.lent a c :: ds.map S.d) (fun o os' => backC os' fun c' => P o (putC ρ1 j c')) (fun x os' => backC os' fun c' => PX x (putC ρ1 j c'))
  | _ => False) PX
section
variable {p : Pm} {F F' F0 : Lab} {I I' I0 H0 H1 H H' : Hp} {σ σ' : L2.St} {ρ ρ' ρ0 : Rho} {W : WX} {v : V} {o : O}
theorem after_call (R : Rel p F I H σ ρ) (s : Step (fun _ => none) I H F' I' H') (sub : Same I' H') : Rel p F I' H' σ ρ ∧ Step F I H F I' H' := by
  have h : Same H H' := fun a o e => s.keep a o e rfl
  have n : ∀ a, I' a ≠ none → I a ≠ none ∨ H a = none := fun a e => by
    rcases s.newI a e with z | z | z
    · exact .inl z
    · exact .inr z
    · exact absurd rfl z
  exact ⟨R.more h s.inc sub n, Step.more R h s.inc n⟩
theorem ret_ok (R : Rel p F I H σ ρ) (r : ResOk p F' I' H H' [] v o) : ResOk p F I' H H' σ v o := by
  cases o with
  | d d => exact r
  | tmp c =>
    obtain ⟨a, e, fp, h1, h2⟩ := r
    refine ⟨a, e, fp, h1, fun b hb => ?_⟩
    obtain ⟨y1, y2, y3, y4⟩ := h2 b hb
    exact ⟨R.lab0 y3, y2, y3, y4⟩
  | loc j => simp [ResOk] at r
  | exc x => exact r
/-- the wish of an exception of the callee -/
theorem w_call {sp : DSp} {g : DA} (σ : L2.St) (H : Hp) (Q : VK) (q : tE p W (dCall sp g) σ H Q) : tA p W g σ H fun vs H1 => spOf p sp vs H1 Q (WE W σ) := by
  obtain ⟨F, I, ρ, P, PX, R, f, k, x⟩ := q
  refine ⟨F, I, ρ, _, PX, R, f, fun os ρ1 vs F1 I1 H1 h s1 R1 r1 => ?_, x⟩
  obtain ⟨ds, e, h⟩ := onlyK_of h
  have r := onlyD_ok r1 e
  let F0 : Lab := fun _ => none
  refine ⟨F0, I1, ds.map S.d, _, _, ⟨R1.sub, (fun a j z => nomatch z), by simp [r.length], fun i s z => ?_⟩, (fun a j z => nomatch z), h, fun o os' v F' I' H' h s' R' r' => ?_, fun x' os' cls d F' I' H' h s' R' ex => ?_⟩
  · rw [map_some_get, List.getElem?_map, Option.map_eq_some_iff] at z
    obtain ⟨d, z, rfl⟩ := z
    obtain ⟨v, h1, h2⟩ := r.get z
    exact ⟨v, map_some_get.mpr h1, h2⟩
  · obtain ⟨R2, s2⟩ := after_call R1 s' R'.sub
    exact k o ρ1 v F1 I' H' h (s1.trans s2) R2 ((ret_ok R1 r').older fun b => s1.old)
  · obtain ⟨R2, s2⟩ := after_call R1 s' R'.sub
    exact x x' ρ1 cls d F1 I' H' h (s1.trans s2) R2 ex
theorem lentK_of {j : Nat} {k : Addr → C → Prop} (R : Rel p F I H σ ρ) (h : lentK ρ j k) (e : σ[j]? = some (some v)) : ∃ a c, v = .ref a ∧ Own p F I H (some j) (fun _ => True) a c ∧ k a c ∧
    (∀ c' F' I' H', Own p F' I' H' (some j) (fun _ => True) a c' → ∃ s, (putC ρ j c') = ρ.set j (some s) ∧ SlotOk p F' I' H' j v s) := by
  unfold lentK at h
  split at h
  · rename_i c q
    obtain ⟨u, h1, a, rfl, h2⟩ := R.slot j _ q
    rw [e] at h1; cases h1
    refine ⟨a, c, rfl, h2, h a, fun c' F' I' H' z => ⟨.own c', ?_, a, rfl, z⟩⟩
    unfold putC; rw [q]
  · rename_i a c q
    obtain ⟨u, h1, rfl, h2⟩ := R.slot j _ q
    rw [e] at h1; cases h1
    refine ⟨a, c, rfl, h2, h, fun c' F' I' H' z => ⟨.lent a c', ?_, rfl, z⟩⟩
    unfold putC; rw [q]
  · exact h.elim
theorem backC_of {os : List S} {k : C → Prop} (h : backC os k) : ∃ a c os2, os = .lent a c :: os2 ∧ k c := by
  unfold backC at h
  split at h
  · exact ⟨_, _, _, rfl, h⟩
  · exact h.elim
/-- labels in the callee, and behind the call -/
def labC (F : Lab) (j : Nat) : Lab := fun b => if F b = some j then some 0 else none
def labB (F F' : Lab) (j : Nat) : Lab := fun b => if F' b = some 0 then some j else if F b = some j then none else F b
theorem labC_0 {j : Nat} {b : Addr} {i : Nat} (h : labC F j b = some i) : F b = some j ∧ i = 0 := by
  unfold labC at h
  split at h
  · rename_i q; exact ⟨q, (Option.some.inj h).symm⟩
  · cases h
theorem labC_none {j : Nat} {b : Addr} (h : F b ≠ some j) : labC F j b = none := by unfold labC; rw [if_neg h]
theorem after_callM {j : Nat} {os : List S} {vs : List V} {a : Addr} {c c' : C} {os2 : List S} {k : Addr → C → Prop} (R : Rel p F I H σ ρ) (e : σ[j]? = some (some (.ref a)))
    (hk : ∀ c' F' I' H', Own p F' I' H' (some j) (fun _ => True) a c' → ∃ s, (putC ρ j c') = ρ.set j (some s) ∧ SlotOk p F' I' H' j (.ref a) s)
    (s : Step (labC F j) I H F' I' H') {a' : Addr} (R' : Rel p F' I' H' (some (.ref a) :: vs.map some) (some (.lent a' c') :: os2.map some)) :
    Rel p (labB F F' j) I' H' σ (putC ρ j c') ∧ Step F I H (labB F F' j) I' H' := by
  obtain ⟨u, g1, g2, fp, g3, g4⟩ := R'.slot 0 (.lent a' c') rfl
  cases g1
  cases g2
  have own : Own p (labB F F' j) I' H' (some j) (fun _ => True) a c' := ⟨fp, g3, fun b hb => by
    obtain ⟨y1, y2, y3, y4⟩ := g4 b hb
    exact ⟨by unfold labB; rw [if_pos y1], y2, y3, y4⟩⟩
  have oth : ∀ b i, F b = some i → i ≠ j → labB F F' j b = some i ∧ I' b = none ∧ H' b = H b ∧ H' b ≠ none := fun b i z n => by
    obtain ⟨l1, l2⟩ := R.lab b i z
    have fc : labC F j b = none := labC_none (by rw [z]; intro y; cases y; exact n rfl)
    obtain ⟨n1, n2⟩ := s.nobody fc l1 l2
    refine ⟨?_, n2, ?_, s.there b l2⟩
    · unfold labB
      rw [if_neg (by rw [n1]; simp), if_neg (by rw [z]; intro y; cases y; exact n rfl)]; exact z
    · cases q : H b with
      | none => exact absurd q l2
      | some o => exact s.keep b o q fc
  have lb : ∀ b i, labB F F' j b = some i → (F' b = some 0 ∧ i = j) ∨ (F b = some i ∧ i ≠ j) := fun b i z => by
    unfold labB at z
    split at z
    · rename_i q; exact .inl ⟨q, (Option.some.inj z).symm⟩
    · split at z
      · cases z
      · rename_i q; exact .inr ⟨z, fun y => q (by rw [z, y])⟩
  obtain ⟨sl, hp, hs⟩ := hk c' _ I' H' own
  refine ⟨⟨R'.sub, fun b i z => ?_, by rw [hp, List.length_set]; exact R.len, fun i sl' z => ?_⟩, fun b o z n => s.keep b o z (labC_none (by rw [n]; simp)), s.inc, fun b z => ?_, fun b i z => ?_, s.there⟩
  · rcases lb b i z with ⟨y, _⟩ | ⟨y, n⟩
    · exact R'.lab b 0 y
    · exact ⟨(oth b i y n).2.1, (oth b i y n).2.2.2⟩
  · rw [hp] at z
    by_cases hi : j = i
    · subst hi
      have hj : j < ρ.length := by rw [R.len]; exact (List.getElem?_eq_some_iff.mp e).1
      rw [List.getElem?_set_self hj] at z
      cases z
      exact ⟨_, e, hs⟩
    · rw [List.getElem?_set_ne hi] at z
      obtain ⟨u, h1, h2⟩ := R.slot i sl' z
      refine ⟨u, h1, ?_⟩
      have ow : ∀ {b : Addr} {c : C}, Own p F I H (some i) (fun _ => True) b c → Own p (labB F F' j) I' H' (some i) (fun _ => True) b c := fun {b c} ⟨fp, g1, g2⟩ =>
        ⟨fp, g1.keep (fun z hz => (oth z i (g2 z hz).1 (fun y => hi y.symm)).2.2.1) s.inc, fun z hz => let q := oth z i (g2 z hz).1 (fun y => hi y.symm); ⟨q.1, q.2.1, trivial, q.2.2.2⟩⟩
      cases sl' with
      | d d => exact Dd.mono s.inc h2
      | own c => obtain ⟨a, e, h2⟩ := h2; exact ⟨a, e, ow h2⟩
      | lent a c => exact ⟨h2.1, ow h2.2⟩
      | exc x => obtain ⟨d, g, h2⟩ := h2; exact ⟨d, g, h2.mono s.inc⟩
  · rcases s.newI b z with y | y | y
    · exact .inl y
    · exact .inr (.inl y)
    · cases q : labC F j b with
      | none => exact absurd q y
      | some i => exact .inr (.inr (by rw [(labC_0 q).1]; simp))
  · rcases lb b i z with ⟨y, rfl⟩ | ⟨y, n⟩
    · rcases s.lab b 0 y with w | w
      · exact .inl (labC_0 w).1
      · exact .inr w
    · exact .inl y
theorem ret_okM {j : Nat} (R : Rel p F I H σ ρ) (r : ResOk p F' I' H H' [] v o) : ResOk p (labB F F' j) I' H H' σ v o := by
  cases o with
  | d d => exact r
  | tmp c =>
    obtain ⟨a, e, fp, h1, h2⟩ := r
    refine ⟨a, e, fp, h1, fun b hb => ?_⟩
    obtain ⟨y1, y2, y3, y4⟩ := h2 b hb
    refine ⟨?_, y2, y3, y4⟩
    have := R.lab0 y3
    unfold labB
    rw [y1, this]; simp
  | loc j => simp [ResOk] at r
  | exc x => exact r
theorem w_callM {sp : DSp} {g : DA} (σ : L2.St) (H : Hp) (Q : VK) (q : tE p W (dCallM sp g) σ H Q) : tA p W g σ H fun vs H1 => spOf p sp vs H1 Q (WE W σ) := by
  obtain ⟨F, I, ρ, P, PX, R, f, k, x⟩ := q
  refine ⟨F, I, ρ, _, PX, R, f, fun os ρ1 vs F1 I1 H1 h s1 R1 r1 => ?_, x⟩
  split at h
  · rename_i j os2
    cases r1 with
    | cons rj rr =>
      rename_i v vs
      have rj : σ[j]? = some (some v) := rj
      obtain ⟨ds, e, h⟩ := onlyK_of h
      have r := onlyD_ok rr e
      obtain ⟨a, c, rfl, ow, h, hk⟩ := lentK_of R1 h rj
      refine ⟨labC F1 j, I1, .lent a c :: ds.map S.d, _, _, ⟨R1.sub, fun b i z => R1.lab b j (labC_0 z).1, by simp [r.length], fun i s z => ?_⟩, fun b i z => by rw [(labC_0 z).2]; exact ⟨a, c, rfl⟩, h, fun o os' v F' I' H' h s' R' r' => ?_, fun x' os' cls d F' I' H' h s' R' ex => ?_⟩
      · cases i with
        | zero =>
          cases z
          obtain ⟨fp, g1, g2⟩ := ow
          refine ⟨_, rfl, rfl, fp, g1, fun b hb => ?_⟩
          obtain ⟨y1, y2, y3, y4⟩ := g2 b hb
          exact ⟨by unfold labC; rw [if_pos y1], y2, y3, y4⟩
        | succ i =>
          rw [map_some_get, List.getElem?_cons_succ, List.getElem?_map, Option.map_eq_some_iff] at z
          obtain ⟨d, z, rfl⟩ := z
          obtain ⟨v, h1, h2⟩ := r.get z
          exact ⟨v, by rw [map_some_get, List.getElem?_cons_succ]; exact h1, h2⟩
      · obtain ⟨a', c', os2, rfl, h⟩ := backC_of h
        obtain ⟨R2, s2⟩ := after_callM (os := os2) (c := c) (k := fun _ _ => True) R1 rj hk s' R'
        exact k o _ v _ I' H' h (s1.trans s2) R2 ((ret_okM R1 r').older fun b => s1.old)
      · obtain ⟨a', c', os2, rfl, h⟩ := backC_of h
        obtain ⟨R2, s2⟩ := after_callM (os := os2) (c := c) (k := fun _ _ => True) R1 rj hk s' R'
        exact x x' _ cls d _ I' H' h (s1.trans s2) R2 ex
  · exact h.elim
end
end Dt

namespace Dt
open PySem PySem.Spec PyProof.Rows L2

/-! ### the rules of calls -/
section
variable {X : Cx} {G : V → Nat → Option Addr → Prop} {W : WX} {pos pos' : Pos} {a : Expr} {es : List Expr} {g : DA} {k : Nat} {x : Str} {f : Addr} {fd : FuncData} {ps : List Str} {sp : DSp}
theorem e_call (F : FnOk X.prog X.w X.K X.mg X.base (L2.CX X.prog X.w) k f fd ps (spOf (pm X G) sp)) (tk : Takes X W) (hr : Room k X.A) (hg : Gl X x) (hm : X.mg x = some (.ref f)) (hk : PySem.W.keepIn X.K (.ref f) = true) (hb : Binds X.K fd ps [])
    (ha : PAd X G W (a :: es) g) (hdb : (x == ("__debug__" : Str)) = false := by decide) (he : starEach (a :: es) X.env = (false, eval a X.env) :: starEach es X.env := by rfl) (hpl : (backTo pos (starEach es X.env)).any (·.1) = false := by rfl) :
    PEd X G W (.Call (.Name x pos') (a :: es) [] pos) (dCall sp g) := PE.weak (pe_callS (E := WE W) F hr hg hm hk hb (fun σ => passAt tk σ) ha hdb he hpl) w_call
theorem e_callM (F : FnOk X.prog X.w X.K X.mg X.base (L2.CX X.prog X.w) k f fd ps (spOf (pm X G) sp)) (tk : Takes X W) (hr : Room k X.A) (hg : Gl X x) (hm : X.mg x = some (.ref f)) (hk : PySem.W.keepIn X.K (.ref f) = true) (hb : Binds X.K fd ps [])
    (ha : PAd X G W (a :: es) g) (hdb : (x == ("__debug__" : Str)) = false := by decide) (he : starEach (a :: es) X.env = (false, eval a X.env) :: starEach es X.env := by rfl) (hpl : (backTo pos (starEach es X.env)).any (·.1) = false := by rfl) :
    PEd X G W (.Call (.Name x pos') (a :: es) [] pos) (dCallM sp g) := PE.weak (pe_callS (E := WE W) F hr hg hm hk hb (fun σ => passAt tk σ) ha hdb he hpl) w_callM
end

/-! ### for, comprehensions -/
abbrev PTds (X : Cx) (G : V → Nat → Option Addr → Prop) (W : WX) (ifs : List Expr) (f : DT) : Prop := PTs X ifs (tT (pm X G) W f)
section
variable {X : Cx} {G : V → Nat → Option Addr → Prop} {W : WX} {pos pos' : Pos} {tg iter elt c : Expr} {ifs : List Expr} {body : List Stmt} {i : DI} {g : DG} {b : DS} {t : DT} {e : DE} {strong : Bool} {vs : List Nat} {scope : Scope} {own : List (Str × Nat)}
theorem ts_nil : PTds X G W [] dYes := ⟨fun pins s σ H Q I h => by
  obtain ⟨F, Ii, ρ, P, PX, R, f1, k, x⟩ := h
  exact pts_nil.run pins s σ H Q I (k true ρ F Ii H f1 (Step.refl ..) R)⟩
theorem ts_one (h : PTd X G W c t) : PTds X G W [c] t := pts_one h
theorem z_for (hp : PassesOwn (model X.prog X.w) X.A X.env X.xe) (hc : X.calm = true) (hi : PId X G W strong tg iter i) (hg : PGd X G strong vs tg g) (hb : PSsd X G W body b) (hs : ∀ x, foldedSetIterable iter X.env x = pure x := by intro _; rfl) :
    PSd X G W (.For tg iter body [] pos) (dFor i g b) := PS.weak (ps_for hp hc hi hg hb hs) w_for
theorem e_comp (hc : X.calm = true) (hN : X.N.Nodup) (hi : PId X G W strong tg iter i) (ok : BlkOk X.N X.env.scope scope own)
    (hg : ∀ (s : Shared) (H : Hp) (C : Addr) (cl : List (Str × Addr)) (fp : List Addr), PGd (X.blk s H scope (compEnvC scope cl C X.env) fp) G strong (own.map (·.2)) tg g) (ht : ∀ (s : Shared) (H : Hp) (C : Addr) (cl : List (Str × Addr)) (fp : List Addr), PTds (X.blk s H scope (compEnvC scope cl C X.env) fp) G W0 ifs t)
    (he : ∀ (s : Shared) (H : Hp) (C : Addr) (cl : List (Str × Addr)) (fp : List Addr), PEd (X.blk s H scope (compEnvC scope cl C X.env) fp) G W0 elt e) (hs : ∀ x, foldedSetIterable iter X.env x = pure x := by intro _; rfl) :
    PEd X G W (.ListComp elt [⟨tg, iter, ifs, 0⟩] scope pos) (dComp i g t e (own.map (·.2))) := PE.weak (pe_lc hc hN hi ok hg ht he hs) w_comp
theorem z_setComp {j : Nat} {y : Str} {py spos : Pos} (hc : X.calm = true) (hN : X.N.Nodup) (hy : X.N[j]? = some y) (hyl : X.env.scope.names.lookup y = some .local)
    (hsw : swapsWith (.ListComp elt [⟨tg, iter, ifs, 0⟩] scope pos) (some (.Name y py)) spos.line X.env = pure true) (hi : PId X G W strong tg iter i) (ok : BlkOk X.N X.env.scope scope own)
    (hg : ∀ (s : Shared) (H : Hp) (C : Addr) (cl : List (Str × Addr)) (fp : List Addr), PGd (X.blk s H scope (compEnvC scope cl C X.env) fp) G strong (own.map (·.2)) tg g) (ht : ∀ (s : Shared) (H : Hp) (C : Addr) (cl : List (Str × Addr)) (fp : List Addr), PTds (X.blk s H scope (compEnvC scope cl C X.env) fp) G W0 ifs t)
    (he : ∀ (s : Shared) (H : Hp) (C : Addr) (cl : List (Str × Addr)) (fp : List Addr), PEd (X.blk s H scope (compEnvC scope cl C X.env) fp) G W0 elt e) (hs : ∀ x, foldedSetIterable iter X.env x = pure x := by intro _; rfl) :
    PSd X G W (.Assign [.Name y py] (.ListComp elt [⟨tg, iter, ifs, 0⟩] scope pos) spos) (dSet j (dComp i g t e (own.map (·.2)))) := PS.weak (ps_setLc hc hN hy hyl hsw hi ok hg ht he hs) fun D σ H q => by
  obtain ⟨F, I, ρ, E, R, f1, k⟩ := q
  refine w_comp σ H _ ⟨F, I, ρ, _, E.ex, R, f1, fun o ρ' v F' I' H' h s' R' r' => ?_, k.xend⟩
  obtain ⟨F2, I2, ρ2, s2, R2, h2⟩ := setK_ok s' R' r' h
  exact k.nx ρ2 _ F2 I2 H' h2 s2 R2
end

/-! ### while -/
@[irreducible] def dWhile (t : DT) (b : DS) : DS := fun E ρ => ∃ W : Nat → Rho → Prop, (∃ m, W m ρ) ∧ ∀ m ρ, W m ρ →
  t ρ (fun c ρ1 => (c = true → b { E with nx := fun ρ' => ∃ m' < m, W m' ρ', ct := fun ρ' => ∃ m' < m, W m' ρ', bk := E.nx } ρ1) ∧ (c = false → E.nx ρ1)) E.ex
section
variable {X : Cx} {G : V → Nat → Option Addr → Prop} {W : WX} {pos : Pos} {c : Expr} {body : List Stmt} {t : DT} {b : DS} {p : Pm}
theorem w_while (D : Ends) (σ : L2.St) (H : Hp) (q : tS p W (dWhile t b) D σ H) : tWhile (tT p W t) (tS p W b) D σ H := by
  obtain ⟨F, I, ρ, E, R, q, k⟩ := q
  unfold dWhile at q
  obtain ⟨Wd, ⟨m0, w0⟩, turn⟩ := q
  refine ⟨fun m σ' H' => ∃ F' I' ρ', Step F I H F' I' H' ∧ Rel p F' I' H' σ' ρ' ∧ Wd m ρ', ⟨m0, F, I, ρ, Step.refl .., R, w0⟩, fun m σ' H' ⟨F', I', ρ', s', R', w'⟩ => ?_⟩
  refine ⟨F', I', ρ', _, E.ex, R', turn m ρ' w', fun c ρ1 F1 I1 H1 h s1 R1 => ?_, (k.later s').xend⟩
  have k1 := k.later (s'.trans s1)
  cases c with
  | false => exact iteF (k1.nx ρ1 _ F1 I1 H1 (h.2 rfl) (Step.refl ..) R1)
  | true =>
    refine iteT ⟨fun σ2 H2 => ∃ m' < m, ∃ F' I' ρ', Step F I H F' I' H2 ∧ Rel p F' I' H2 σ2 ρ' ∧ Wd m' ρ', fun σ2 H2 ⟨m', hm, h⟩ => ⟨m', hm, h⟩, ?_⟩
    refine ⟨F1, I1, ρ1, _, R1, h.1 rfl, ⟨fun ρ2 σ2 F2 I2 H2 ⟨m', hm, h⟩ s2 R2 => ?_, k1.nx, fun ρ2 σ2 F2 I2 H2 ⟨m', hm, h⟩ s2 R2 => ?_, k1.rt, k1.ex⟩⟩
    · exact ⟨m', hm, F2, I2, ρ2, (s'.trans s1).trans s2, R2, h⟩
    · exact ⟨m', hm, F2, I2, ρ2, (s'.trans s1).trans s2, R2, h⟩
theorem z_while (hp : PassesOwn (model X.prog X.w) X.A X.env X.xe) (hc : PTd X G W c t) (hb : PSsd X G W body b) : PSd X G W (.While c body [] pos) (dWhile t b) := PS.weak (ps_while hp hc hb) w_while
end

/-! ### count of a list or a tuple -/
def cntLF : D → DF := fun d ds P => match d, ds with
  | .list xs, [.int k] => intsK xs fun ns => P (.d (.int ((ns.count k : Nat) : Int)))
  | .list xs, [.bool k] => boolsK xs fun ns => P (.d (.int ((ns.count k : Nat) : Int)))
  | _, _ => False
def cntTF : D → DF := fun d ds P => match d, ds with
  | .tuple xs, [.int k] => intsK xs fun ns => P (.d (.int ((ns.count k : Nat) : Int)))
  | _, _ => False
theorem countP_ints (ns : List Int) (k : Int) : ((ns.map PyData.int).countP fun y => PyData.eqv y (.int k)) = ns.count k := by
  rw [List.countP_map, List.count]
  congr 1
theorem dp_ints {K : PySem.W.Frag} {H : Hp} : ∀ ns : List Int, DpAll K H (ns.map V.int) (ns.map PyData.int)
  | [] => .nil
  | n :: ns => .cons (.int n) (dp_ints ns)
theorem plain_ints : ∀ ns : List Int, PyData.plainAll (ns.map PyData.int) = true
  | [] => rfl
  | n :: ns => by
    have := plain_ints ns
    simp [PyData.plainAll, PyData.plain, this]
theorem countP_bools (ns : List Bool) (k : Bool) : ((ns.map PyData.bool).countP fun y => PyData.eqv y (.bool k)) = ns.count k := by
  rw [List.countP_map, List.count]
  congr 1
theorem dp_bools {K : PySem.W.Frag} {H : Hp} : ∀ ns : List Bool, DpAll K H (ns.map V.bl) (ns.map PyData.bool)
  | [] => .nil
  | n :: ns => .cons (.bl n) (dp_bools ns)
theorem plain_bools : ∀ ns : List Bool, PyData.plainAll (ns.map PyData.bool) = true
  | [] => rfl
  | n :: ns => by
    have := plain_bools ns
    simp [PyData.plainAll, PyData.plain, this]
section
variable {p : Pm}
theorem s_cntL : MtS p "list" (rCount (fun q vs H => SqL p.K H q vs) p.K) cntLF := by
  intro F I H σ ρ v vs d ds P Q R h1 h2 h k
  unfold cntLF at h
  split at h
  · obtain ⟨w, rfl, r2⟩ := args1 h2
    obtain ⟨ns, rfl, hh⟩ := intsK_of h
    obtain ⟨a, rfl, e⟩ := listInts R.sub h1
    refine ⟨a, w, _, _, _, rfl, rfl, e, dp_ints ns, by rw [r2.int]; exact .int _, plain_ints ns, rfl, by simp [PyData.depth], ?_⟩
    rw [countP_ints]
    exact k.flat R hh (.int _)
  · rename_i k'
    obtain ⟨w, rfl, r2⟩ := args1 h2
    obtain ⟨ns, rfl, hh⟩ := boolsK_of h
    obtain ⟨a, vs, rfl, e, r⟩ := h1.list R.sub
    rw [r.ofBools] at e
    refine ⟨a, w, _, _, .bool k', rfl, rfl, SqL.of e, dp_bools ns, ?_, plain_bools ns, rfl, by simp [PyData.depth], ?_⟩
    · rw [r2.bool]; exact .bl _
    rw [countP_bools]
    exact k.flat R hh (.int _)
  · exact h.elim
theorem s_cntT : MtS p "tuple" (rCount (fun q vs H => SqT p.K H q vs) p.K) cntTF := by
  intro F I H σ ρ v vs d ds P Q R h1 h2 h k
  unfold cntTF at h
  split at h
  · obtain ⟨w, rfl, r2⟩ := args1 h2
    obtain ⟨ns, rfl, hh⟩ := intsK_of h
    obtain ⟨a, rfl, e⟩ := tupInts R.sub h1
    refine ⟨a, w, _, _, _, rfl, rfl, e, dp_ints ns, by rw [r2.int]; exact .int _, plain_ints ns, rfl, by simp [PyData.depth], ?_⟩
    rw [countP_ints]
    exact k.flat R hh (.int _)
  · exact h.elim
end
def cntK (d : D) (k1 k2 : Prop) : Prop := match d with
  | .list _ => k1
  | .tuple _ => k2
  | _ => False
def dCnt (a : DE) (g : DA) : DE := fun ρ P PX => a ρ (fun o ρ1 => vw1 ρ1 o fun d0 => cntK d0
  (g ρ1 (fun os ρ2 => vw1 ρ2 o fun d => vwsK ρ2 os fun ds => cntLF d ds fun o => P o ρ2) PX)
  (g ρ1 (fun os ρ2 => vw1 ρ2 o fun d => vwsK ρ2 os fun ds => cntTF d ds fun o => P o ρ2) PX)) PX
section
variable {X : Cx} {G : V → Nat → Option Addr → Prop} {W : WX} {apos cpos : Pos} {a e : Expr} {fa : DE} {g : DA}
theorem e_cnt (hu : X.A.units + 64 < cLine) (ho : PEd X G W a fa) (ha : PAd X G W [e] g)
    (hbase : attributeBase a "count" X.env (eval a X.env) = eval a X.env := by rfl)
    (hfew : ((backTo cpos (starEach [e] X.env)).all (fun x => !x.1) && (backToKw cpos (keywordEach [] X.env)).all (fun x => x.1.isSome)
      && decide (([e] : List Expr).length + ([] : List Keyword).length + (if ([] : List Keyword).isEmpty then 0 else 1) < 30)) = true := by rfl)
    (hline : (apos.endLine == cpos.line) = true := by rfl) (h1 : starEach [e] X.env = (false, eval e X.env) :: starEach [] X.env := by rfl) (hplain : (backTo cpos (starEach [] X.env)).any (·.1) = false := by rfl) :
    PEd X G W (.Call (.Attribute a "count" apos) [e] [] cpos) (dCnt fa g) :=
  PE.weak (pe_bw2 PySem.F.plainAttrs_list PySem.F.slot_list_count PySem.F.type_list_count (mt_countL hu) PySem.F.plainAttrs_tuple PySem.F.slot_tuple_count PySem.F.type_tuple_count (mt_countT hu) ho ha hbase hfew hline h1 hplain) fun σ H Q q => by
    obtain ⟨F, I, ρ, P, PX, R, f1, k, x⟩ := q
    refine ⟨F, I, ρ, _, PX, R, f1, fun o ρ1 v F1 I1 H1 f2 s1 R1 r1 => ?_, x⟩
    obtain ⟨d, e, f2⟩ := vw1_of f2
    have hd0 := vw_ok R1 r1 e
    unfold cntK at f2
    split at f2
    · refine .inl ⟨okTy_of (T := "list") R1.sub hd0 rfl, F1, I1, ρ1, _, PX, R1, f2, fun os ρ2 vs F2 I2 H2 f3 s2 R2 r2 => ?_, x.later s1⟩
      obtain ⟨d2, e2, f3⟩ := vw1_of f3
      obtain ⟨ds, e3, f4⟩ := vwsK_of f3
      have s3 := s1.trans s2
      exact s_cntL F2 I2 H2 σ ρ2 _ vs _ _ _ Q R2 (vw_ok R2 (r1.stay s2) e2) (vws_ok R2 r2 e3) f4 fun o v' I' H' h s' R' r' => k o ρ2 v' F2 I' H' h (s3.trans s') R' (r'.older fun b e => s3.old e)
    · refine .inr ⟨okTy_of (T := "tuple") R1.sub hd0 rfl, F1, I1, ρ1, _, PX, R1, f2, fun os ρ2 vs F2 I2 H2 f3 s2 R2 r2 => ?_, x.later s1⟩
      obtain ⟨d2, e2, f3⟩ := vw1_of f3
      obtain ⟨ds, e3, f4⟩ := vwsK_of f3
      have s3 := s1.trans s2
      exact s_cntT F2 I2 H2 σ ρ2 _ vs _ _ _ Q R2 (vw_ok R2 (r1.stay s2) e2) (vws_ok R2 r2 e3) f4 fun o v' I' H' h s' R' r' => k o ρ2 v' F2 I' H' h (s3.trans s') R' (r'.older fun b e => s3.old e)
    · exact f2.elim
end

/-! ### what changes an owned list -/
section
variable {p : Pm} {F F' F0 : Lab} {I I' I0 H0 H1 H H' : Hp} {σ : L2.St} {ρ ρ' : Rho} {v w : V} {o : O}
/-- slot j's list is rewritten -/
theorem mut_ok {j : Nat} {a : Addr} {ds ds' : List D} {vs' : List V} (R : Rel p F I H σ ρ) (e : σ[j]? = some (some (.ref a))) (hc : cst ρ j = some (.lst ds)) (r : DdAll p I vs' ds') :
    Rel p F I (upd H a (.lst vs')) σ (putC ρ j (.lst ds')) ∧ Step F I H F I (upd H a (.lst vs')) := by
  obtain ⟨a', q, fp, ⟨rfl, ws, g1, g2⟩, g3⟩ := R.cst e hc
  cases q
  obtain ⟨f1, f2, _, f4⟩ := g3 a (by simp)
  have hi : ∀ b y, I b = some y → b ≠ a := fun b y z q => by rw [q, f2] at z; cases z
  have hne : ∀ b i, F b = some i → i ≠ j → b ≠ a := fun b i z n q => by rw [q, f1] at z; cases z; exact n rfl
  have th : ∀ b, H b ≠ none → (upd H a (.lst vs')) b ≠ none := fun b z => by
    by_cases hb : b = a
    · subst hb; rw [upd_same]; simp
    · rw [upd_ne hb]; exact z
  have own : Own p F I (upd H a (.lst vs')) (some j) (fun _ => True) a (.lst ds') := ⟨[a], ⟨rfl, vs', upd_same, r⟩, fun b hb => by
    have e : b = a := by simpa using hb
    subst e
    exact ⟨f1, f2, trivial, by rw [upd_same]; simp⟩⟩
  have hp : ∃ s, putC ρ j (.lst ds') = ρ.set j (some s) ∧ SlotOk p F I (upd H a (.lst vs')) j (.ref a) s := by
    unfold cst at hc
    split at hc
    · rename_i q
      exact ⟨.own (.lst ds'), by unfold putC; rw [q], a, rfl, own⟩
    · rename_i a0 c0 q
      obtain ⟨u, y1, y2, _⟩ := R.slot j _ q
      rw [e] at y1; cases y1; cases y2
      exact ⟨.lent a (.lst ds'), by unfold putC; rw [q], rfl, own⟩
    · cases hc
  obtain ⟨s, hp, hs⟩ := hp
  refine ⟨⟨fun b y z => by rw [upd_ne (hi b y z)]; exact R.sub b y z, fun b i z => ⟨(R.lab b i z).1, th b (R.lab b i z).2⟩, by rw [hp, List.length_set]; exact R.len, fun i sl z => ?_⟩,
    ⟨fun b y z n => by rw [upd_ne (fun q => by rw [q, f1] at n; cases n)]; exact z, fun _ _ z => z, fun _ z => .inl z, fun _ _ z => .inl z, th⟩⟩
  rw [hp] at z
  by_cases hij : j = i
  · subst hij
    have hj : j < ρ.length := by rw [R.len]; exact (List.getElem?_eq_some_iff.mp e).1
    rw [List.getElem?_set_self hj] at z
    cases z
    exact ⟨_, e, hs⟩
  · rw [List.getElem?_set_ne hij] at z
    obtain ⟨u, h1, h2⟩ := R.slot i sl z
    refine ⟨u, h1, ?_⟩
    have ow : ∀ {b : Addr} {c : C}, Own p F I H (some i) (fun _ => True) b c → Own p F I (upd H a (.lst vs')) (some i) (fun _ => True) b c := fun {b c} ⟨fp, g1, g2⟩ =>
      ⟨fp, g1.keep (fun z hz => upd_ne (hne z i (g2 z hz).1 (fun y => hij y.symm))) (fun _ _ e => e), fun z hz => ⟨(g2 z hz).1, (g2 z hz).2.1, trivial, th z (g2 z hz).2.2.2⟩⟩
    cases sl with
    | d d => exact h2
    | own c => obtain ⟨b, e, h2⟩ := h2; exact ⟨b, e, ow h2⟩
    | lent b c => exact ⟨h2.1, ow h2.2⟩
    | exc x => exact h2
end
/-- a method that rewrites a list: f old args new result -/
abbrev MF := List D → List D → (List D → D → Prop) → Prop
def MuS (p : Pm) (r : V → List V → Hp → VK → Prop) (f : MF) : Prop := ∀ I H a vs ds xs es k Q, Same I H → H a = some (.lst vs) → DdAll p I vs ds → DdAll p I xs es → f ds es k →
  (∀ vs' ds' v d, DdAll p I vs' ds' → Dd p I v d → k ds' d → Q v (upd H a (.lst vs'))) → r (.ref a) xs H Q
def locK (o : O) (k : Nat → Prop) : Prop := match o with
  | .loc j => k j
  | _ => False
def lstK (ρ : Rho) (j : Nat) (k : List D → Prop) : Prop := match cst ρ j with
  | some (.lst ds) => k ds
  | _ => False
def dMu (f : MF) (a : DE) (g : DA) : DE := fun ρ P PX => a ρ (fun o ρ1 => locK o fun j => lstK ρ1 j (fun _ => True) ∧ g ρ1 (fun os ρ2 => onlyK os fun es => lstK ρ2 j fun ds => f ds es fun ds' d => P (.d d) (putC ρ2 j (.lst ds'))) PX) PX
theorem locK_of {o : O} {k : Nat → Prop} (h : locK o k) : ∃ j, o = .loc j ∧ k j := by
  unfold locK at h
  split at h
  · exact ⟨_, rfl, h⟩
  · exact h.elim
theorem lstK_of {ρ : Rho} {j : Nat} {k : List D → Prop} (h : lstK ρ j k) : ∃ ds, cst ρ j = some (.lst ds) ∧ k ds := by
  unfold lstK at h
  split at h
  · exact ⟨_, by assumption, h⟩
  · exact h.elim
section
variable {p : Pm} {W : WX}
theorem mu_run {r : V → List V → Hp → VK → Prop} {f : MF} {F0 : Lab} {I0 H0 : Hp} {F : Lab} {I H : Hp} {σ : L2.St} {ρ : Rho} {j : Nat} {v : V} {xs : List V} {es ds : List D} {P : O → Rho → Prop} {Q : VK} (hs : MuS p r f) (s0 : Step F0 I0 H0 F I H) (R : Rel p F I H σ ρ) (rv : σ[j]? = some (some v)) (rx : DdAll p I xs es) (hc : cst ρ j = some (.lst ds))
    (hf : f ds es fun ds' d => P (.d d) (putC ρ j (.lst ds'))) (k : ∀ o ρ' v F' I' H', P o ρ' → Step F0 I0 H0 F' I' H' → Rel p F' I' H' σ ρ' → ResOk p F' I' H0 H' σ v o → Q v H') : r v xs H Q := by
  obtain ⟨a, rfl, fp, ⟨rfl, vs, g1, g2⟩, g3⟩ := R.cst rv hc
  refine hs I H a vs ds xs es _ Q R.sub g1 g2 rx hf fun vs' ds' v d r1 r2 h => ?_
  obtain ⟨R', s'⟩ := mut_ok R rv hc r1
  exact k _ _ v F I _ h (s0.trans s') R' r2
theorem w_mu {r : V → List V → Hp → VK → Prop} {f : MF} {a : DE} {g : DA} (hs : MuS p r f) (σ : L2.St) (H : Hp) (Q : VK) (q : tE p W (dMu f a g) σ H Q) : tBW p.K "list" r (tE p W a) (tA p W g) σ H Q := by
  obtain ⟨F, I, ρ, P, PX, R, f1, k, x⟩ := q
  refine ⟨F, I, ρ, _, PX, R, f1, fun o ρ1 v F1 I1 H1 f2 s1 R1 r1 => ?_, x⟩
  obtain ⟨j, rfl, f2, f3⟩ := locK_of f2
  have r1 : σ[j]? = some (some v) := r1
  obtain ⟨ds, hc, _⟩ := lstK_of f2
  obtain ⟨a, rfl, fp, ⟨rfl, vs, g1, g2⟩, g3⟩ := R1.cst r1 hc
  refine ⟨.inl (.inl ⟨rfl, vs, SqL.of g1⟩), F1, I1, ρ1, _, PX, R1, f3, fun os ρ2 xs F2 I2 H2 f4 s2 R2 r2 => ?_, x.later s1⟩
  obtain ⟨es, he, f4⟩ := onlyK_of f4
  obtain ⟨ds2, hc2, f5⟩ := lstK_of f4
  exact mu_run hs (s1.trans s2) R2 r1 (onlyD_ok r2 he) hc2 f5 k
end
def appF : MF := fun ds es k => match es with
  | [e] => ds.length ≤ 16000000 ∧ k (ds ++ [e]) .none
  | _ => False
def extF : MF := fun ds es k => match es with
  | [.list xs] => ds.length + xs.length ≤ 16000000 ∧ k (ds ++ xs) .none
  | _ => False
section
variable {p : Pm} {I H : Hp} {vs : List V}
theorem dargs1 {d : D} (h : DdAll p I vs [d]) : ∃ v, vs = [v] ∧ Dd p I v d := by
  cases h with
  | cons r rr => cases rr; exact ⟨_, rfl, r⟩
theorem s_app : MuS p rAppend appF := by
  intro I H a vs ds xs es k Q s h r rx hf q
  have sl : (sizeLine : Nat) = 16777216 := sizeLine_eq
  unfold appF at hf
  split at hf
  · obtain ⟨v, rfl, rv⟩ := dargs1 rx
    exact ⟨a, vs, v, rfl, rfl, h, by have := r.length; have := hf.1; omega, q _ _ _ _ (DdAll.append r (.cons rv .nil)) .non hf.2⟩
  · exact hf.elim
theorem s_ext : MuS p rExtend extF := by
  intro I H a vs ds xs es k Q s h r rx hf q
  have sl : (sizeLine : Nat) = 16777216 := sizeLine_eq
  unfold extF at hf
  split at hf
  · obtain ⟨v, rfl, rv⟩ := dargs1 rx
    cases rv with
    | lst e hs =>
      exact ⟨a, _, vs, _, rfl, rfl, h, s _ _ e, by have := r.length; have := hs.length; have := hf.1; omega, q _ _ _ _ (DdAll.append r hs) .non hf.2⟩
  · exact hf.elim
end
section
variable {X : Cx} {G : V → Nat → Option Addr → Prop} {W : WX} {apos cpos : Pos} {a e : Expr} {fa : DE} {es : List Expr} {g : DA} {name : Str} {id : String} {r : V → List V → Hp → VK → Prop} {f : MF}
theorem e_mu (slot : Slot "list" name id) (hty : typeOf (.builtin id) = pure (.type "method_descriptor")) (hm : MtR X id r) (hs : MuS (pm X G) r f) (ho : PEd X G W a fa) (ha : PAd X G W (e :: es) g)
    (hbase : attributeBase a name X.env (eval a X.env) = eval a X.env := by rfl)
    (hfew : ((backTo cpos (starEach (e :: es) X.env)).all (fun x => !x.1) && (backToKw cpos (keywordEach [] X.env)).all (fun x => x.1.isSome)
      && decide ((e :: es).length + ([] : List Keyword).length + (if ([] : List Keyword).isEmpty then 0 else 1) < 30)) = true := by rfl)
    (hline : (apos.endLine == cpos.line) = true := by rfl) (h1 : starEach (e :: es) X.env = (false, eval e X.env) :: starEach es X.env := by rfl) (hplain : (backTo cpos (starEach es X.env)).any (·.1) = false := by rfl) :
    PEd X G W (.Call (.Attribute a name apos) (e :: es) [] cpos) (dMu f fa g) := PE.weak (pe_bw PySem.F.plainAttrs_list slot hty hm ho ha hbase hfew hline h1 hplain) (w_mu hs)
end
def intK (o : O) (k : Int → Prop) : Prop := match o with
  | .d (.int i) => k i
  | _ => False
theorem intK_of {o : O} {k : Int → Prop} (h : intK o k) : ∃ i, o = .d (.int i) ∧ k i := by
  unfold intK at h
  split at h
  · exact ⟨_, rfl, h⟩
  · exact h.elim
/-- o is data from here on -/
def onlyd1 (o : O) (k : D → Prop) : Prop := match o with
  | .d d => k d
  | _ => False
theorem onlyd1_of {o : O} {k : D → Prop} (h : onlyd1 o k) : ∃ d, o = .d d ∧ k d := by
  unfold onlyd1 at h
  split at h
  · exact ⟨_, rfl, h⟩
  · exact h.elim
end Dt

namespace Dt
open PySem PySem.Spec PyProof.Rows L2

/-! ### more rules -/
/-- a list's or a tuple's items -/
def itSeqK (o : O) (k : List D → Prop) : Prop := match o with
  | .d (.list ds) => k ds
  | .d (.tuple ds) => k ds
  | .tmp (.lst ds) => k ds
  | _ => False
def dIt (f : DE) : DI := fun ρ P PX => f ρ (fun o ρ1 => itSeqK o fun ds => P ds ρ1) PX
/-- what is read is a list or a tuple -/
def iSeq (K : PySem.W.Frag) (tl : TE) : TI := fun σ H R => tl σ H fun x H1 => ∃ a, x = .ref a ∧ (((∃ xs, SqL K H1 a xs) ∧ R (Itl K a) H1) ∨ ((∃ xs, SqT K H1 a xs) ∧ R (Itt K a) H1))
section
variable {X : Cx} {G : V → Nat → Option Addr → Prop} {W : WX} {pos pos' kp1 kp2 : Pos} {tg a e : Expr} {es : List Expr} {fa : DE} {g : DA} {t : DT}
theorem pi_seq {l : Expr} {tl : TE} (hl : PE X l tl) : PI X tg l (iSeq X.K tl) := ⟨fun pins s σ H R J h => thn (hl.run pins s σ H _ J h) fun v s1 ⟨x, H1, I1, r1, q1⟩ => by
  obtain ⟨u, rfl, q⟩ := q1
  cases r1
  have fr : ∀ b ∈ [s1.heap.objs.size], FpOk X pins H1 b := fun b hb => by
    obtain rfl : b = s1.heap.objs.size := by simpa using hb
    exact I1.fpOk (Nat.le_refl _) (I1.hok.fresh (Nat.le_refl _))
  rcases q with ⟨⟨xs, hq⟩, q⟩ | ⟨⟨xs, hq⟩, q⟩
  · obtain ⟨its, _, p, _⟩ := I1.list hq
    exact wpAny_pyIter_list p.isList ⟨s1.heap.objs.size, [s1.heap.objs.size], _, _, H1, rfl, I1.kept (t' := s1.toks) fun _ _ z => Heap.get?_push_of_some _ z, turn_list u _, ⟨_, Heap.get?_push_size _ rfl, rfl, rfl⟩, fr, q⟩
  · obtain ⟨its, _, p, _⟩ := I1.tuple hq
    exact wpAny_pyIter_tuple (show s1.heap.IsTuple u its.toArray from p) ⟨s1.heap.objs.size, [s1.heap.objs.size], _, _, H1, rfl, I1.kept (t' := s1.toks) fun _ _ z => Heap.get?_push_of_some _ z, turn_tuple u _, ⟨_, Heap.get?_push_size _ rfl, rfl, rfl⟩, fr, q⟩⟩
theorem i_seq (h : PEd X G W a fa) : PId X G W true tg a (dIt fa) := PI.weak (pi_seq h) fun σ H R q => by
  obtain ⟨F, I, ρ, P, PX, RR, f1, k, x⟩ := q
  refine ⟨F, I, ρ, _, PX, RR, f1, fun o ρ1 v F1 I1 H1 f2 s1 R1 r1 => ?_, x⟩
  unfold itSeqK at f2
  split at f2
  · cases r1 with
    | lst e r =>
      rename_i a vs
      exact ⟨a, rfl, .inl ⟨⟨_, SqL.of (R1.sub _ _ e)⟩, fun big => k _ ρ1 F1 I1 H1 _ f2 s1 R1 (itw_list (fun F' I' H' s s2 => SqL.of (s2 _ _ (s.inc _ _ e))) r (big _ _ (.inl (R1.sub _ _ e))))⟩⟩
  · cases r1 with
    | tup e z r =>
      rename_i a o vs
      exact ⟨a, rfl, .inr ⟨⟨_, sqF (R1.sub _ _ e)⟩, fun big => k _ ρ1 F1 I1 H1 _ f2 s1 R1 (itw_tup (fun F' I' H' s s2 => sqF (s2 _ _ (s.inc _ _ e))) r (big _ _ (.inr ⟨_, R1.sub _ _ e⟩)))⟩⟩
  · obtain ⟨a, rfl, fp, ⟨rfl, vs, e, r⟩, hf⟩ := r1
    exact ⟨a, rfl, .inl ⟨⟨_, SqL.of e⟩, fun big => k _ ρ1 F1 I1 H1 _ f2 s1 R1 (itw_list (fun F' I' H' s s2 => SqL.of (s.keep _ _ e (hf a (by simp)).1)) r (big _ _ (.inl e)))⟩⟩
  · exact f2.elim
theorem pt_of_pw (h : PWd X G W a t) : PTd X G W a t := PW.pt h
theorem get_list : PGet X (rIxL X.K) := fun pins s σ H o i ov iv Q I ro ri h => by
  obtain ⟨p, xs, i, z, rfl, rfl, hq, he, q⟩ := h
  cases ro
  obtain ⟨t, rfl⟩ := ri
  obtain ⟨its, r, pl, hz⟩ := I.list hq
  obtain ⟨j, h1, h2, h3, h4, h5⟩ := atI_get he
  obtain ⟨w, ew, rw'⟩ := r.get h2
  have hl := r.length
  have hn := line63
  have fin : EP X pins σ Q w s := ⟨z, H, I, rw', q⟩
  by_cases h0 : 0 ≤ i
  · have hj : i.toNat = j := by
      rw [seqIndex_of h0 h5] at h1
      exact Option.some.inj h1
    exact PySem.wpAny_getItem_list pl.isList h0 (by omega) (by rw [hj]; simpa using ew) fin
  · have hj : (i + (its.toArray.size : Int)).toNat = j := by
      rw [seqIndex_neg (by omega) (by omega)] at h1
      have := Option.some.inj h1
      rw [List.size_toArray, ← hl]
      exact this
    exact PySem.wpAny_getItem_list_neg pl.isList (by omega) (by rw [List.size_toArray, ← hl]; omega) (by omega) (by rw [hj]; simpa using ew) fin
theorem e_sortR {j : Nat} (hg : Gl X "sorted") (hm : X.mg "sorted" = none) (ha : PAd X G W (a :: es) g)
    (he : backTo pos (starEach (a :: es) X.env) = (false, eval a X.env) :: backTo pos (starEach es X.env) := by rfl) (hpl : (backTo pos (starEach (a :: es) X.env)).any (·.1) = false := by rfl)
    (hall : (backToKw pos (keywordEach [⟨some "reverse", .Constant (.bool true) j kp1, kp2⟩] X.env)).all (·.1.isSome) = true := by rfl) (hnone : (backToKw pos (keywordEach [⟨some "reverse", .Constant (.bool true) j kp1, kp2⟩] X.env)).any (·.1.isNone) = false := by rfl)
    (hks : (backToKw pos (keywordEach [⟨some "reverse", .Constant (.bool true) j kp1, kp2⟩] X.env)).filterMap (·.1) = [Str.ofString "reverse"] := by rfl) :
    PEd X G W (.Call (.Name "sorted" pos') (a :: es) [⟨some "reverse", .Constant (.bool true) j kp1, kp2⟩] pos) (dCB sortRF g) :=
  PE.weak (pe_callBK (cr_srtR (b := true)) hg hm (by decide +kernel) ha (pk_cons pe_bl pk_nil) (by decide) (by decide) he hpl hall hnone hks) fun σ H Q q => by
    obtain ⟨F, I, ρ, P, PX, R, f1, k, x⟩ := q
    refine ⟨F, I, ρ, _, PX, R, f1, fun os ρ1 vs F1 I1 H1 f2 s1 R1 r1 => ?_, x⟩
    obtain ⟨ds, e, f3⟩ := vwsK_of f2
    exact ⟨rfl, s_sortR F1 I1 H1 σ ρ1 vs ds _ Q R1 (vws_ok R1 r1 e) f3 fun o v' I' H' h s' R' r' => k o ρ1 v' F1 I' H' h (s1.trans s') R' (r'.older fun b e => s1.old e)⟩
end
end Dt

namespace Dt
open PySem PySem.Spec PyProof.Rows L2

/-! ### the laws' machine of draws: what its three defs promise -/
structure StH (H : Hp) (a g c : Addr) (gs : List Int) (cur : Int) (cs : List Int) (cnt : Int) : Prop where
  ag : a ≠ g
  ac : a ≠ c
  gc : g ≠ c
  ha : H a = some (.lst [.ref g, .int cur, .ref c, .int cnt])
  hg : H g = some (.lst (gs.map V.int))
  hc : H c = some (.lst (cs.map V.int))
def spMix : Sp := fun vs H Q _ => ∃ a g c gs cur cs cnt, vs = [.ref a] ∧ StH H a g c gs cur cs cnt ∧ 0 ≤ cnt ∧ cnt < 2 ^ 60 ∧ ∀ r, 0 ≤ r → r < 1000000007 → Q (.int r) (upd H a (.lst [.ref g, .int cur, .ref c, .int (cnt + 1)]))
def spDraw : Sp := fun vs H Q _ => ∃ a g c gs cur cs cnt m, vs = [.ref a, .int m] ∧ StH H a g c gs cur cs cnt ∧ (∀ g ∈ gs, 0 < g) ∧ 0 ≤ cur ∧ 0 ≤ cnt ∧ cnt < 2 ^ 59 ∧ 0 < m ∧ m ≤ 10 ^ 70 ∧
  ∀ k gs' cur' cnt' H', 0 ≤ k → k < m → StH H' a g c gs' cur' cs cnt' → (∀ g ∈ gs', g ∈ gs) → gs'.length ≤ gs.length → 0 ≤ cur' → cnt ≤ cnt' → cnt' ≤ cnt + 8 → (∀ x, x ≠ a → x ≠ g → H' x = H x) → Q (.int k) H'
def spStart (K : PySem.W.Frag) : Sp := fun vs H Q _ => ∃ (s : Addr) (ns : List Int), vs = [.ref s] ∧ SqL K H s (ns.map V.int) ∧ ns.length ≤ 63 ∧
  ∀ a g c gs cs H', H a = none → H g = none → H c = none → Same H H' → StH H' a g c gs 0 cs 0 → (∀ g ∈ gs, 0 < g) → gs.length ≤ 63 → (∀ c ∈ cs, 0 ≤ c ∧ c < 2147483629) → cs.length ≤ 63 → Q (.ref a) H'
section
variable {H H' : Hp} {a g c : Addr} {gs gs' : List Int} {cur cur' : Int} {cs : List Int} {cnt cnt' : Int}
theorem StH.setA (h : StH H a g c gs cur cs cnt) : StH (upd H a (.lst [.ref g, .int cur', .ref c, .int cnt'])) a g c gs cur' cs cnt' :=
  ⟨h.ag, h.ac, h.gc, upd_same, by rw [upd_ne h.ag.symm]; exact h.hg, by rw [upd_ne h.ac.symm]; exact h.hc⟩
theorem StH.setG (h : StH H a g c gs cur cs cnt) : StH (upd H g (.lst (gs'.map V.int))) a g c gs' cur cs cnt :=
  ⟨h.ag, h.ac, h.gc, by rw [upd_ne h.ag]; exact h.ha, upd_same, by rw [upd_ne h.gc.symm]; exact h.hc⟩
end
theorem seq_key {t u : TS} {D : Ends} {σ : L2.St} {H : Hp} (J : L2.St → Hp → Prop) (hk : ∀ σ' H', J σ' H' → u D σ' H') (h : (∀ σ' H', J σ' H' → u D σ' H') → tSeq t u D σ H) : tSeq t u D σ H := h hk
theorem pow_small {j : Nat} {m : Int} (e : (1000000007 : Int) ^ j < m) (h : m ≤ 10 ^ 70) : j < 8 := by
  refine Nat.lt_of_not_le fun z => ?_
  obtain ⟨k, rfl⟩ := Nat.exists_eq_add_of_le z
  rw [Int.pow_add] at e
  have h1 : (0 : Int) < 1000000007 ^ k := Int.pow_pos (by decide)
  have h2 : (1000000007 : Int) ^ 8 * 1 ≤ 1000000007 ^ 8 * 1000000007 ^ k := Int.mul_le_mul_of_nonneg_left h1 (by decide)
  have h3 : (10 : Int) ^ 70 < 1000000007 ^ 8 * 1 := by decide
  exact absurd (Int.lt_of_lt_of_le (Int.lt_of_lt_of_le h3 h2) (Int.le_trans (Int.le_of_lt e) h)) (Int.lt_irrefl _)
/-- of a state in a slot -/
def sp__law_draw : DSp := fun os P PX => match os with
  | [.lent a (.st b), .d (.int m)] => (0 < m ∧ m ≤ 10 ^ 70 ∧ b ≤ 10 ^ 15) ∧ ∀ k : Int, 0 ≤ k → k < m → P (.d (.int k)) [.lent a (.st (b + 8)), .d (.int m)]
  | _ => False
theorem draw_imp {p : Pm} {vs : List V} {H : Hp} {Q : VK} {E : XK} (h : spOf p sp__law_draw vs H Q E) : spDraw vs H Q E := by
  obtain ⟨F, I, os, P, PX, R, hF, hsp, k, kx⟩ := h
  unfold sp__law_draw at hsp
  split at hsp
  · rename_i a b m
    obtain ⟨⟨m1, m2, m3⟩, hsp⟩ := hsp
    have hl := R.len
    rw [List.length_map, List.length_map] at hl
    obtain ⟨v, w, rfl⟩ : ∃ v w, vs = [v, w] := by
      match vs, hl with
      | [v, w], _ => exact ⟨v, w, rfl⟩
    obtain ⟨u, e1, r1⟩ := R.slot 0 _ rfl
    obtain ⟨u2, e2, r2⟩ := R.slot 1 _ rfl
    cases e1
    cases e2
    obtain ⟨rfl, fp, ⟨g, c, gs, cur, cs, cnt, rfl, n1, n2, n3, h1, h2, h3, s1, s2, s3, s4, s5, s6, s7⟩, own⟩ := r1
    cases r2
    refine ⟨a, g, c, gs, cur, cs, cnt, m, rfl, ⟨n1, n2, n3, h1, h2, h3⟩, s1, s2, s4, by omega, m1, m2, fun kk gs' cur' cnt' H' k0 k1 st hg hl hc q1 q2 oth => ?_⟩
    obtain ⟨fa, ia, _, na⟩ := own a (by simp)
    obtain ⟨fg, ig, _, ng⟩ := own g (by simp)
    obtain ⟨fc, ic, _, nc⟩ := own c (by simp)
    have hne : ∀ x y, I x = some y → H' x = some y := fun x y e => by
      rw [oth x (fun z => by rw [z, ia] at e; cases e) (fun z => by rw [z, ig] at e; cases e)]
      exact R.sub x y e
    have th : ∀ x, H x ≠ none → H' x ≠ none := fun x e => by
      by_cases ha : x = a
      · rw [ha, st.ha]; simp
      · by_cases hg : x = g
        · rw [hg, st.hg]; simp
        · rw [oth x ha hg]; exact e
    have st' : Step F I H F I H' := ⟨fun x y e n => by
        rw [oth x (fun z => by rw [z, fa] at n; cases n) (fun z => by rw [z, fg] at n; cases n)]; exact e,
      fun _ _ e => e, fun _ e => .inl e, fun _ _ e => .inl e, th⟩
    refine k _ _ (.int kk) F I H' (hsp kk k0 k1) st' ⟨hne, fun x j e => ⟨(R.lab x j e).1, th x (R.lab x j e).2⟩, rfl, fun i s e => ?_⟩ (Dd.int kk)
    match i, e with
    | 0, e =>
      cases e
      refine ⟨_, rfl, rfl, [a, g, c], ⟨g, c, gs', cur', cs, cnt', rfl, n1, n2, n3, st.ha, st.hg, st.hc, fun x hx => s1 x (hg x hx), hc, s3, by omega, by omega, s6, by omega⟩, fun x hx => ?_⟩
      obtain ⟨y1, y2, y3, y4⟩ := own x hx
      exact ⟨y1, y2, trivial, th x y4⟩
    | 1, e => cases e; exact ⟨_, rfl, Dd.int m⟩
    | i + 2, e => simp at e
  · exact hsp.elim
/-! ### the law's def: its first statement makes the state -/
def spLaw (K : PySem.W.Frag) : Sp := fun vs H Q _ => ∃ (a : Addr) (ns : List Int), vs = [.ref a] ∧ SqL K H a (ns.map V.int) ∧ ns.length ≤ 63 ∧ ∀ H', Q (.bl true) H'
def lawEnds : DEnds where
  nx _ := False
  rt o _ := o = .d (.bool true)
  bk _ := False
  ct _ := False
  ex _ _ := False
theorem law_cont {p : Pm} {n : Nat} {H : Hp} {Q : VK} {E : XK} {b : DS} (hn : 2 ≤ n) (hb : ∀ a, b lawEnds (none :: some (.lent a (.st 0)) :: List.replicate (n - 2) none)) (hq : ∀ H', Q (.bl true) H') {σ0 : L2.St} (hσ : σ0.length = n) :
  ∀ a g c gs cs H', H a = none → H g = none → H c = none → Same H H' → StH H' a g c gs 0 cs 0 → (∀ g ∈ gs, 0 < g) → gs.length ≤ 63 → (∀ c ∈ cs, 0 ≤ c ∧ c < 2147483629) → cs.length ≤ 63 →
    tS p (fun cls d _ H => E cls d H) b { nx := fun _ H' => Q .non H', rt := Q } (σ0.set 1 (some (.ref a))) H' := by
  intro a g c gs cs H' na ng nc sm st h1 h2 h3 h4
  let F : Lab := fun b => if b = a ∨ b = g ∨ b = c then some 1 else none
  have hF : ∀ b j, F b = some j → b = a ∨ b = g ∨ b = c := fun b j e => by
    have e : (if b = a ∨ b = g ∨ b = c then some 1 else none) = some j := e
    split at e
    · assumption
    · cases e
  have hF1 : ∀ b, b = a ∨ b = g ∨ b = c → F b = some 1 := fun b e => if_pos e
  have there : ∀ b, b = a ∨ b = g ∨ b = c → H' b ≠ none := fun b e => by
    rcases e with rfl | rfl | rfl
    · rw [st.ha]; simp
    · rw [st.hg]; simp
    · rw [st.hc]; simp
  refine ⟨F, fun _ => none, _, lawEnds, ⟨(fun _ _ e => nomatch e), fun b j e => ⟨rfl, there b (hF b j e)⟩, by simp; omega, fun i sl e => ?_⟩, hb a, ⟨fun _ _ _ _ _ h => h.elim, fun _ _ _ _ _ h => h.elim, fun _ _ _ _ _ h => h.elim, fun o _ v _ _ _ _ h _ _ r => ?_, fun _ _ _ _ _ _ _ _ h => h.elim⟩⟩
  · match i, e with
    | 0, e => cases e
    | 1, e =>
      cases e
      refine ⟨.ref a, List.getElem?_set_self (by omega), rfl, [a, g, c], ⟨g, c, gs, 0, cs, 0, rfl, st.ag, st.ac, st.gc, st.ha, st.hg, st.hc, h1, Int.le_refl _, h3, Int.le_refl _, by omega, h4, h2⟩, fun b hb => ?_⟩
      have hb : b = a ∨ b = g ∨ b = c := by simpa using hb
      exact ⟨hF1 b hb, rfl, trivial, there b hb⟩
    | i + 2, e =>
      have := List.mem_of_getElem? e
      simp at e
      rw [List.getElem?_replicate] at e
      split at e <;> cases e
  · have h : o = .d (.bool true) := h
    subst h
    cases r
    exact hq _
end Dt

namespace Dt
open PySem PySem.Spec PyProof.Rows L2

/-! ### loops, plainly -/
section
variable {g : DG} {b : DS} {E : DEnds} {t : DT} {e : DE} {vs : List Nat} {P : List D → Rho → Prop}
theorem forGo_ind {α : Type} (enc : α → D) (Inv : List α → Rho → Prop)
    (step : ∀ x xs ρ (K : Rho → Prop), (∀ ρ', Inv xs ρ' → K ρ') → Inv (x :: xs) ρ → g (enc x) ρ fun ρ1 => b { E with nx := K, ct := K, bk := E.nx } ρ1) (done : ∀ ρ, Inv [] ρ → E.nx ρ) : ∀ (xs : List α) (ρ : Rho), Inv xs ρ → forGo g b E (xs.map enc) ρ
  | [], ρ, h => by rw [List.map_nil, forGo_nilE]; exact done ρ h
  | x :: xs, ρ, h => by rw [List.map_cons, forGo_consE]; exact step x xs ρ _ (fun ρ' h' => forGo_ind enc Inv step done xs ρ' h') h
theorem compGo_ind {α : Type} (enc : α → D) (Inv : List α → List D → Rho → Prop)
    (step : ∀ x xs acc ρ (K : List D → Rho → Prop), (∀ acc' ρ', Inv xs acc' ρ' → K acc' ρ') → Inv (x :: xs) acc ρ → g (enc x) ρ fun ρ1 => t ρ1 (fun b ρ2 => (b = true → e ρ2 (fun o ρ3 => onlyd o fun d' => K (acc ++ [d']) (wipeR ρ3 vs)) noX) ∧ (b = false → K acc (wipeR ρ2 vs))) noX)
    (done : ∀ acc ρ, Inv [] acc ρ → P acc ρ) : ∀ (xs : List α) (acc : List D) (ρ : Rho), Inv xs acc ρ → compGo g t e vs P (xs.map enc) acc ρ
  | [], acc, ρ, h => by rw [List.map_nil, compGo_nilE]; exact done acc ρ h
  | x :: xs, acc, ρ, h => by rw [List.map_cons, compGo_consE]; exact step x xs acc ρ _ (fun acc' ρ' h' => compGo_ind enc Inv step done xs acc' ρ' h') h
/-- each item gives an item, nothing else changes -/
theorem compGo_map {α : Type} (enc : α → D) (f : α → D) {xs : List α} {acc : List D} {ρ : Rho}
    (step : ∀ x ∈ xs, ∀ acc (K : List D → Rho → Prop), K (acc ++ [f x]) ρ → g (enc x) ρ fun ρ1 => t ρ1 (fun b ρ2 => (b = true → e ρ2 (fun o ρ3 => onlyd o fun d' => K (acc ++ [d']) (wipeR ρ3 vs)) noX) ∧ (b = false → K acc (wipeR ρ2 vs))) noX)
    (done : P (acc ++ xs.map f) ρ) : compGo g t e vs P (xs.map enc) acc ρ := by
  refine compGo_ind enc (fun r acc' ρ' => ρ' = ρ ∧ (∀ x ∈ r, x ∈ xs) ∧ acc' ++ r.map f = acc ++ xs.map f) (fun x r acc' ρ' K k h => ?_) (fun acc' ρ' h => ?_) xs acc ρ ⟨rfl, fun _ h => h, rfl⟩
  · obtain ⟨rfl, h1, h2⟩ := h
    refine step x (h1 x List.mem_cons_self) acc' K (k _ _ ⟨rfl, fun y hy => h1 y (List.mem_cons_of_mem _ hy), ?_⟩)
    rw [← h2]; simp
  · obtain ⟨rfl, _, h2⟩ := h
    rw [← h2] at done; simpa using done
theorem compGo_filter {α : Type} (enc : α → D) (keep : α → Bool) (f : α → D) {xs : List α} {acc : List D} {ρ : Rho}
    (step : ∀ x ∈ xs, ∀ acc (K : List D → Rho → Prop), (keep x = true → K (acc ++ [f x]) ρ) → (keep x = false → K acc ρ) → g (enc x) ρ fun ρ1 => t ρ1 (fun b ρ2 => (b = true → e ρ2 (fun o ρ3 => onlyd o fun d' => K (acc ++ [d']) (wipeR ρ3 vs)) noX) ∧ (b = false → K acc (wipeR ρ2 vs))) noX)
    (done : P (acc ++ (xs.filter keep).map f) ρ) : compGo g t e vs P (xs.map enc) acc ρ := by
  refine compGo_ind enc (fun r acc' ρ' => ρ' = ρ ∧ (∀ x ∈ r, x ∈ xs) ∧ acc' ++ (r.filter keep).map f = acc ++ (xs.filter keep).map f) (fun x r acc' ρ' K k h => ?_) (fun acc' ρ' h => ?_) xs acc ρ ⟨rfl, fun _ h => h, rfl⟩
  · obtain ⟨rfl, h1, h2⟩ := h
    refine step x (h1 x List.mem_cons_self) acc' K (fun e => k _ _ ⟨rfl, fun y hy => h1 y (List.mem_cons_of_mem _ hy), ?_⟩) (fun e => k _ _ ⟨rfl, fun y hy => h1 y (List.mem_cons_of_mem _ hy), ?_⟩)
    · rw [← h2, List.filter_cons_of_pos e]; simp
    · rw [← h2, List.filter_cons_of_neg (by simp [e])]
  · obtain ⟨rfl, _, h2⟩ := h
    rw [← h2] at done; simpa using done
/-- each item gives an item of a kind (drawn), the state goes on: b is the bound of draws -/
theorem compGo_draw {α : Type} (enc : α → D) (c : Nat) (R : α → D → Prop) (St : Nat → Rho) {xs : List α} {b0 : Nat}
    (step : ∀ x ∈ xs, ∀ acc b1 (K : List D → Rho → Prop), b0 ≤ b1 → b1 ≤ b0 + c * xs.length → (∀ d b2, R x d → b1 ≤ b2 → b2 ≤ b1 + c → K (acc ++ [d]) (St b2)) → g (enc x) (St b1) fun ρ1 => t ρ1 (fun b ρ2 => (b = true → e ρ2 (fun o ρ3 => onlyd o fun d' => K (acc ++ [d']) (wipeR ρ3 vs)) noX) ∧ (b = false → K acc (wipeR ρ2 vs))) noX)
    (done : ∀ ds b2, Paired R xs ds → b0 ≤ b2 → b2 ≤ b0 + c * xs.length → P ds (St b2)) : compGo g t e vs P (xs.map enc) [] (St b0) := by
  refine compGo_ind enc (fun r acc ρ => ∃ p b1, ρ = St b1 ∧ xs = p ++ r ∧ Paired R p acc ∧ b0 ≤ b1 ∧ b1 ≤ b0 + c * p.length) (fun x r acc ρ K k h => ?_) (fun acc ρ h => ?_) xs [] (St b0) ⟨[], b0, rfl, rfl, .nil, Nat.le_refl _, Nat.le_refl _⟩
  · obtain ⟨p, b1, rfl, h1, h2, h3, h4⟩ := h
    have hl : p.length + 1 ≤ xs.length := by rw [h1]; simp
    have hm : c * p.length + c ≤ c * xs.length := by
      have := Nat.mul_le_mul_left c hl
      rw [Nat.mul_add, Nat.mul_one] at this; exact this
    refine step x (by rw [h1]; simp) acc b1 K h3 (by omega) fun d b2 hr q1 q2 => k _ _ ⟨p ++ [x], b2, rfl, by rw [h1]; simp, ?_, by omega, ?_⟩
    · exact paired_snoc h2 hr
    · rw [List.length_append]; simp only [List.length_cons, List.length_nil]; rw [Nat.mul_add]; omega
  · obtain ⟨p, b1, rfl, h1, h2, h3, h4⟩ := h
    have : xs = p := by rw [h1]; simp
    subst this
    exact done acc b1 h2 h3 h4
where paired_snoc {α β : Type} {R : α → β → Prop} : ∀ {p : List α} {q : List β} {x : α} {y : β}, Paired R p q → R x y → Paired R (p ++ [x]) (q ++ [y])
  | _, _, _, _, .nil, h => .cons h .nil
  | _, _, _, _, .cons a r, h => .cons a (paired_snoc r h)
end
/-- ints of a kind, drawn -/
theorem paired_ints {α : Type} {R : α → D → Prop} {S : Int → Prop} (h : ∀ x d, R x d → ∃ i, d = .int i ∧ S i) : ∀ {xs : List α} {ds : List D}, Paired R xs ds → ∃ ns : List Int, ds = ns.map PyData.int ∧ ns.length = xs.length ∧ ∀ n ∈ ns, S n
  | _, _, .nil => ⟨[], rfl, rfl, by simp⟩
  | _, _, .cons r rr => by
    obtain ⟨i, rfl, hi⟩ := h _ _ r
    obtain ⟨ns, rfl, h2, h3⟩ := paired_ints h rr
    exact ⟨i :: ns, rfl, by simp [h2], by simpa using ⟨hi, h3⟩⟩
theorem paired_len {α β : Type} {R : α → β → Prop} : ∀ {xs : List α} {ys : List β}, Paired R xs ys → ys.length = xs.length
  | _, _, .nil => rfl
  | _, _, .cons _ r => by simp [paired_len r]
/-- while, by what falls -/
theorem dWhile_ind {t : DT} {b : DS} {E : DEnds} {ρ : Rho} (W : Nat → Rho → Prop) (m : Nat) (h0 : W m ρ)
    (turn : ∀ m ρ (K : Rho → Prop), (∀ m' ρ', m' < m → W m' ρ' → K ρ') → W m ρ → t ρ (fun c ρ1 => (c = true → b { E with nx := K, ct := K, bk := E.nx } ρ1) ∧ (c = false → E.nx ρ1)) E.ex) : dWhile t b E ρ := by
  unfold dWhile
  exact ⟨W, ⟨m, h0⟩, fun m ρ w => turn m ρ _ (fun m' ρ' h1 h2 => ⟨m', h1, h2⟩) w⟩

theorem Cod.K_enc {α : Type} (c : Cod α) (a : α) (k : α → Prop) : c.K (c.enc a) k = k a := by unfold Cod.K; rw [c.h1]
theorem Cod.K_of {α : Type} {c : Cod α} {d : D} {k : α → Prop} (h : c.K d k) : ∃ a, d = c.enc a ∧ k a := by
  unfold Cod.K at h
  split at h
  · exact ⟨_, c.h2 _ _ (by assumption), h⟩
  · exact h.elim
def cInt : Cod Int := ⟨.int, fun d => match d with | .int i => some i | _ => none, fun _ => rfl, fun d a h => by cases d <;> simp_all⟩
def cBool : Cod Bool := ⟨.bool, fun d => match d with | .bool i => some i | _ => none, fun _ => rfl, fun d a h => by cases d <;> simp_all⟩
def cTri {α β γ : Type} (c : Cod α) (e : Cod β) (f : Cod γ) : Cod (α × β × γ) := ⟨fun p => .tuple [c.enc p.1, e.enc p.2.1, f.enc p.2.2], fun d => match d with
  | .tuple [x, y, z] => (match c.dec x with
    | some a => (match e.dec y with
      | some b => (match f.dec z with
        | some u => some (a, b, u)
        | none => none)
      | none => none)
    | none => none)
  | _ => none, fun p => by simp [c.h1, e.h1, f.h1], fun d p h => by
    split at h
    · rename_i x y z
      cases e1 : c.dec x with
      | none => simp [e1] at h
      | some a =>
        cases e2 : e.dec y with
        | none => simp [e1, e2] at h
        | some b =>
          cases e3 : f.dec z with
          | none => simp [e1, e2, e3] at h
          | some u =>
            simp [e1, e2, e3] at h
            rw [← h, ← c.h2 _ _ e1, ← e.h2 _ _ e2, ← f.h2 _ _ e3]
    · cases h⟩
def cHeap : Cod Heap1 := cT cInt
def cRule : Cod (List Heap1) := cT cHeap
abbrev rD (r : List Heap1) : D := .tuple (r.map hD)
def heapK (d : D) (k : Heap1 → Prop) : Prop := cHeap.K d k
def ruleK (d : D) (k : List Heap1 → Prop) : Prop := cRule.K d k
theorem heapK_enc (h : Heap1) (k : Heap1 → Prop) : heapK (hD h) k = k h := cHeap.K_enc h k
theorem ruleK_enc (r : List Heap1) (k : List Heap1 → Prop) : ruleK (rD r) k = k r := cRule.K_enc r k
theorem heapK_of {d : D} {k : Heap1 → Prop} (h : heapK d k) : ∃ a, d = hD a ∧ k a := Cod.K_of h
theorem ruleK_of {d : D} {k : List Heap1 → Prop} (h : ruleK d k) : ∃ a, d = rD a ∧ k a := Cod.K_of h
/-! ### picking -/
theorem atI_lt {α : Type} {ds : List α} {i : Int} (h0 : 0 ≤ i) (h1 : i < ds.length) : ∃ h : i.toNat < ds.length, atI ds i = some ds[i.toNat] := by
  have h : i.toNat < ds.length := by omega
  refine ⟨h, ?_⟩
  obtain ⟨j, rfl⟩ : ∃ j : Nat, i = j := ⟨i.toNat, (Int.toNat_of_nonneg h0).symm⟩
  exact atI_nat (List.getElem?_eq_getElem h)
theorem pick {α β : Type} {enc : α → β} (as : List α) {ds : List β} {i : Int} {P : β → Prop} (e : ds = as.map enc) (h0 : 0 ≤ i) (h1 : i < as.length) (k : ∀ a ∈ as, P (enc a)) : getK (atI ds i) P := by
  subst e
  obtain ⟨h, e⟩ := atI_lt (ds := as.map enc) h0 (by simpa using h1)
  refine getK_mk _ e ?_
  rw [List.getElem_map]
  exact k _ (List.getElem_mem _)
theorem good_int : Good cInt 0 := ⟨fun _ => rfl, fun _ => by simp [cInt, PyData.depth], fun a b => by simp only [cInt, PyData.eqv]; rfl⟩
theorem good_bool : Good cBool 0 := ⟨fun _ => rfl, fun _ => by simp [cBool, PyData.depth], fun a b => by simp only [cBool, PyData.eqv]; cases a <;> cases b <;> rfl⟩
theorem Good.Tri {α β γ : Type} [DecidableEq α] [DecidableEq β] [DecidableEq γ] {c : Cod α} {e : Cod β} {f : Cod γ} {n m k : Nat} (g : Good c n) (g' : Good e m) (g'' : Good f k) : Good (cTri c e f) (max n (max m k) + 1) :=
  ⟨fun a => by simp only [cTri, PyData.canLay0, PyData.canLayAll0, g.lay, g'.lay, g''.lay, Bool.and_self], fun a => by
    have := g.dep a.1
    have := g'.dep a.2.1
    have := g''.dep a.2.2
    simp only [cTri, PyData.depth, PyData.depthAll]; omega, fun a b => by
    obtain ⟨a1, a2, a3⟩ := a
    obtain ⟨b1, b2, b3⟩ := b
    simp only [cTri, PyData.eqv, PyData.eqvAll, g.eqv, g'.eqv, g''.eqv]
    by_cases h : a1 = b1 <;> by_cases h' : a2 = b2 <;> by_cases h'' : a3 = b3 <;> simp [h, h', h'']⟩
theorem good_heap : Good cHeap 1 := good_int.T
theorem good_rule : Good cRule 2 := good_heap.T
theorem sh_int (i : Int) : SeqAt.shaped (.int i) = true := good_int.sh (by decide) i
theorem sh_bool (i : Bool) : SeqAt.shaped (.bool i) = true := good_bool.sh (by decide) i
theorem sh_heap (h : List Int) : SeqAt.shaped (hD h) = true := good_heap.sh (by decide) h
theorem sh_lints (h : List Int) : SeqAt.shaped (.list (h.map PyData.int)) = true := good_int.L.sh (by decide) h
theorem sh_rule (h : List (List Int)) : SeqAt.shaped (rD h) = true := good_rule.sh (by decide) h
theorem sh_lheaps (h : List (List Int)) : SeqAt.shaped (.list (h.map hD)) = true := good_heap.L.sh (by decide) h
theorem eqv_I (a b : Int) : PyData.eqv (.int a) (.int b) = decide (a = b) := good_int.eqv a b
theorem eqv_B (a b : Bool) : PyData.eqv (.bool a) (.bool b) = decide (a = b) := good_bool.eqv a b
theorem eqv_H (a b : List Int) : PyData.eqv (hD a) (hD b) = decide (a = b) := good_heap.eqv a b
theorem eqv_R (a b : List (List Int)) : PyData.eqv (rD a) (rD b) = decide (a = b) := good_rule.eqv a b
theorem eqv_LI (a b : List Int) : PyData.eqv (.list (a.map PyData.int)) (.list (b.map PyData.int)) = decide (a = b) := good_int.L.eqv a b
theorem eqv_LH (a b : List (List Int)) : PyData.eqv (.list (a.map hD)) (.list (b.map hD)) = decide (a = b) := good_heap.L.eqv a b
theorem getK_in {α : Type} {o : Option α} {d : α} {k : α → Prop} (e : o = some d) (h : k d) : getK o k := getK_mk d e h
theorem heapK_in {h : Heap1} {k : Heap1 → Prop} (q : k h) : heapK (hD h) k := by rw [heapK_enc]; exact q
theorem ruleK_in {h : List Heap1} {k : List Heap1 → Prop} (q : k h) : ruleK (rD h) k := by rw [ruleK_enc]; exact q
theorem intsK_in {h : List Int} {k : List Int → Prop} (q : k h) : intsK (h.map PyData.int) k := by rw [intsK_map]; exact q
theorem strsK_in {h : List Str} {k : List Str → Prop} (q : k h) : strsK (h.map PyData.str) k := by rw [strsK_map]; exact q
theorem boolsK_in {h : List Bool} {k : List Bool → Prop} (q : k h) : boolsK (h.map PyData.bool) k := by rw [boolsK_map]; exact q
theorem intsK_mk {ds : List D} {k : List Int → Prop} (h : List Int) (e : ds = h.map PyData.int) (q : k h) : intsK ds k := by rw [e, intsK_map]; exact q
theorem heapK_mk {d : D} {k : Heap1 → Prop} (h : Heap1) (e : d = hD h) (q : k h) : heapK d k := by rw [e, heapK_enc]; exact q
theorem brN {p : Prop} [Decidable p] {A B : Prop} (h1 : ¬ p → A) (h2 : p → B) : ((!decide p) = true → A) ∧ ((!decide p) = false → B) := by
  by_cases h : p <;> simp [h] <;> first | exact h1 h | exact h2 h
theorem brT {A B : Prop} (h1 : A) : (true = true → A) ∧ (true = false → B) := ⟨fun _ => h1, fun h => nomatch h⟩
theorem brF {A B : Prop} (h1 : B) : (false = true → A) ∧ (false = false → B) := ⟨fun h => (nomatch h), fun _ => h1⟩
theorem brB {c : Bool} {A B : Prop} (h1 : c = true → A) (h2 : c = false → B) : (c = true → A) ∧ (c = false → B) := ⟨h1, h2⟩
theorem brL {α : Type} {xs : List α} {A B : Prop} (h1 : xs ≠ [] → A) (h2 : xs = [] → B) : ((!xs.isEmpty) = true → A) ∧ ((!xs.isEmpty) = false → B) := by
  cases xs with
  | nil => exact ⟨fun h => (nomatch h), fun _ => h2 rfl⟩
  | cons x xs => exact ⟨fun _ => h1 (by simp), fun h => nomatch h⟩
theorem brLm {α β : Type} {f : α → β} {xs : List α} {A B : Prop} (h1 : xs ≠ [] → A) (h2 : xs = [] → B) : ((!(xs.map f).isEmpty) = true → A) ∧ ((!(xs.map f).isEmpty) = false → B) := brL (fun h => h1 fun e => h (by rw [e]; rfl)) fun h => h2 (List.map_eq_nil_iff.mp h)
theorem brZ {i : Int} {A B : Prop} (h1 : i ≠ 0 → A) (h2 : i = 0 → B) : ((i != 0) = true → A) ∧ ((i != 0) = false → B) := by
  by_cases h : i = 0 <;> simp [h] <;> first | exact h1 h | exact h2 h
theorem forGo_nil {g : DG} {b : DS} {E : DEnds} {ρ : Rho} (h : E.nx ρ) : forGo g b E [] ρ := by rw [forGo_nilE]; exact h
theorem compGo_nil {g : DG} {t : DT} {e : DE} {vs : List Nat} {P : List D → Rho → Prop} {acc : List D} {ρ : Rho} (h : P acc ρ) : compGo g t e vs P [] acc ρ := by rw [compGo_nilE]; exact h
theorem len_srtR (ns : List Int) : (srt ns).reverse.length = ns.length := by rw [List.length_reverse, (srt_perm ns).length_eq]
theorem isHeap_srtR {ns : List Int} {S : Int → Prop} (h : ∀ n ∈ ns, 1 ≤ n ∧ S n) : isHeap (srt ns).reverse := ⟨down_srtR ns, fun x hx => (h x (mem_srtR.mp hx)).1⟩
theorem srtR_self {h : Heap1} (p : h.Pairwise (· ≥ ·)) : (srt h).reverse = h := (srtR_eq (List.Perm.refl h) p).symm
/-! ### two ways by == -/
theorem brDT {p : Prop} [Decidable p] {A B : Prop} (h : p) (q : A) : (decide p = true → A) ∧ (decide p = false → B) := ⟨fun _ => q, fun z => absurd h (of_decide_eq_false z)⟩
theorem brDF {p : Prop} [Decidable p] {A B : Prop} (h : ¬ p) (q : B) : (decide p = true → A) ∧ (decide p = false → B) := ⟨fun z => absurd (of_decide_eq_true z) h, fun _ => q⟩
theorem brNT {p : Prop} [Decidable p] {A B : Prop} (h : ¬ p) (q : A) : ((!decide p) = true → A) ∧ ((!decide p) = false → B) := brN (fun _ => q) fun z => absurd z h
theorem brNF {p : Prop} [Decidable p] {A B : Prop} (h : p) (q : B) : ((!decide p) = true → A) ∧ ((!decide p) = false → B) := brN (fun z => absurd h z) fun _ => q
theorem brE {x y : D} {p : Prop} [Decidable p] {A B : Prop} (e : PyData.eqv x y = decide p) (h1 : p → A) (h2 : ¬ p → B) : (PyData.eqv x y = true → A) ∧ (PyData.eqv x y = false → B) := by rw [e]; exact br h1 h2
theorem brNE {x y : D} {p : Prop} [Decidable p] {A B : Prop} (e : PyData.eqv x y = decide p) (h1 : ¬ p → A) (h2 : p → B) : ((!PyData.eqv x y) = true → A) ∧ ((!PyData.eqv x y) = false → B) := by rw [e]; exact brN h1 h2
theorem brET {x y : D} {A B : Prop} (e : PyData.eqv x y = true) (q : A) : (PyData.eqv x y = true → A) ∧ (PyData.eqv x y = false → B) := by rw [e]; exact brT q
theorem brNET {x y : D} {A B : Prop} (e : PyData.eqv x y = true) (q : B) : ((!PyData.eqv x y) = true → A) ∧ ((!PyData.eqv x y) = false → B) := by rw [e]; exact brF q
theorem eqvT_I {a b : Int} (h : a = b) : PyData.eqv (.int a) (.int b) = true := by rw [eqv_I, decide_eq_true h]
theorem eqvT_B {a b : Bool} (h : a = b) : PyData.eqv (.bool a) (.bool b) = true := by rw [eqv_B, decide_eq_true h]
theorem eqvT_H {a b : List Int} (h : a = b) : PyData.eqv (hD a) (hD b) = true := by rw [eqv_H, decide_eq_true h]
theorem eqvT_R {a b : List (List Int)} (h : a = b) : PyData.eqv (rD a) (rD b) = true := by rw [eqv_R, decide_eq_true h]
theorem eqvT_LI {a b : List Int} (h : a = b) : PyData.eqv (.list (a.map PyData.int)) (.list (b.map PyData.int)) = true := by rw [eqv_LI, decide_eq_true h]
theorem eqvT_LH {a b : List (List Int)} (h : a = b) : PyData.eqv (.list (a.map hD)) (.list (b.map hD)) = true := by rw [eqv_LH, decide_eq_true h]
end Dt

namespace Dt
open PySem PySem.Spec PyProof.Rows L2

/-- behind a suite the clause's name stands for nothing -/
abbrev goneE (o : Option Nat) (D : Ends) : Ends := match o with
  | none => D
  | some i => { nx := fun σ' H' => D.nx (σ'.set i none) H', rt := D.rt, bk := fun σ' H' => D.bk (σ'.set i none) H', ct := fun σ' H' => D.ct (σ'.set i none) H' }
abbrev bindE (o : Option Nat) (a : Addr) (σ : L2.St) : L2.St := match o with
  | none => σ
  | some i => σ.set i (some (.ref a))
/-- what the clauses wish of an exception of the body -/
def wCl (K : PySem.W.Frag) (Wout : WX) (D : Ends) : List TCl → WX
  | [] => Wout
  | (c, o, ts) :: r => fun cls d σ H => ∃ b, PySem.W.exmOne K cls c = some b ∧ (b = true → ∀ a, H a = none → ts a cls d (goneE o D) (bindE o a σ) H) ∧ (b = false → wCl K Wout D r cls d σ H)
section
variable {X : Cx} {body orelse : List Stmt} {h₀ : ExceptHandler} {hds : List ExceptHandler} {l : List TCl} {pos : Pos} {tb : WX → TS} {u : TS} {Wout : WX}
theorem ps_tryG (ho : PSs X orelse u) (hs : X.stack = X.env :: X.outer) (hf : X.env.frame = some X.env.locals) (hN : X.N.Nodup) (tk : L2.Takes X Wout)
    (hb : ∀ (W : WX) (pn : List (Addr × Obj)) (xe : Value → Shared → Prop), L2.Takes (X.tr pn xe) W → PassesOwn (model X.prog X.w) X.A X.env xe → PSs (X.tr pn xe) body (tb W))
    (hh : ClOk X (h₀ :: hds) l) : PS X (.Try body (h₀ :: hds) orelse [] pos) (fun D σ H => tb (wCl X.K Wout D l) { D with nx := u D } σ H) := by
  refine ⟨fun pins s σ H D I h => wpAny_Try_except ?_⟩
  have ok := I.ok
  have fr0 : X.A.frames = some (X.env :: X.outer) := by rw [ok.frames, hs]
  let wish : Value → Shared → Prop := fun e s₁ => wpAny (model X.prog X.w) X.A (noteFrame e X.env) (fun _ s₂ => wpAny (model X.prog X.w) X.A (setFlight e none) (fun _ s₃ => wpAny (model X.prog X.w) X.A (handleBy e X.env (h₀ :: hds)) (SP X pins D) X.xe s₃) X.xe s₂) X.xe s₁
  have catch_ : L2.Takes (X.tr (X.pn ++ pins) wish) (wCl X.K Wout D l) := by
    rintro v s' ⟨a, B, sI, pins', σ', H', cls, d, rfl, J', nb, up, sky, na, os, ag, w⟩
    have J : Inv X pins σ' H' sI := J'.ofTry ok
    have sky' : Sky B (X.env :: X.outer) a (Zc cls d) X.env.locals s'.heap := by rw [← hs]; exact sky
    show wpAny (model X.prog X.w) X.A (noteFrame (.ref a) X.env) _ X.xe s'
    refine Sky.land Zc.steady fr0 hf sky' fun h3 fl3 up3 => ?_
    have J3 : Inv X pins σ' H' { s' with heap := h3 } := J.landed nb fl3.1 (up.trans up3) os ag
    obtain ⟨oe3, vs3, he3, hz3, hd3⟩ := fl3.there
    have nfr : a ∉ frs (X.env :: X.outer) := fun hm => by
      obtain ⟨_, o', e', hnf⟩ := fl3.2.2.1.mem hm
      rw [he3] at e'; cases e'
      exact hnf _ hd3
    have nL : a ≠ X.env.locals := fun z => nfr (List.mem_filterMap.mpr ⟨X.env, List.mem_cons_self, by rw [hf, z]⟩)
    have nF : a ∉ X.fs := fun hm => by
      obtain ⟨e, he, q⟩ := List.mem_filterMap.mp hm
      exact nfr (List.mem_filterMap.mpr ⟨e, List.mem_cons_of_mem _ he, q⟩)
    have S3 := J3.suite he3 hd3 na nL nF
    have LT : PySem.W.Looks (model X.prog X.w) h3 (typeOf (.ref a)) cls := fun A Q E s k q => wpAny_typeOf_ref (k _ _ he3) (by rw [hz3.1]; exact q)
    have test : ∀ {x : Str} {c : Value} {np : Pos} {Q : Value → Shared → Prop} {E : Value → Shared → Prop}, Names X x c → Q c { s' with heap := h3 } → wpAny (model X.prog X.w) (X.A.mark (some (.ref a))) (eval (.Name x np) X.env) Q E { s' with heap := h3 } := fun {x c np Q E} hc q => by
      obtain ⟨hg, hdbg, hm | ⟨hm, hv, hnn⟩⟩ := hc
      · exact ld_glob (X := X.suite a ((a, oe3) :: (X.pn ++ pins))) S3 hg hm q hdbg
      · exact ld_blt (X := X.suite a ((a, oe3) :: (X.pn ++ pins))) S3 hg hm hv q hnn hdbg
    have go : ∀ {hs' : List ExceptHandler} {l' : List TCl}, ClOk X hs' l' → wCl X.K Wout D l' cls d σ' H' →
        wpAny (model X.prog X.w) X.A (handleBy (.ref a) X.env hs') (SP X pins D) X.xe { s' with heap := h3 } := by
      intro hs' l' hk
      induction hk with
      | nil =>
        intro w
        refine wpAny_handleBy_nil ?_
        obtain ⟨_, _, _, oe, vs, T, _, _, he, _, hd, h1, _⟩ := id fl3
        have fin : wpAny (model X.prog X.w) X.A (setFlight (.ref a) X.env.frame) (fun _ s4 => wpAny (model X.prog X.w) X.A (throw (.ref a) : Sem Flow) (SP X pins D) X.xe s4) X.xe { s' with heap := h3 } := by
          rw [hf]
          exact HandSPX.setFlight_upZ fl3 fun h4 hh4 up4 => wpAny_throw (tk _ _ ⟨a, B, sI, pins, σ', H', cls, d, rfl, J, nb, (up.trans up3).trans up4, .inr (.inr (by rw [hs]; exact hh4)), na, os, ag, w⟩)
        unfold PySem.passOn
        refine wpAny_bind (wpAny_field he hd h1 ?_)
        rw [if_neg (show ¬ ((Value.ref T == Value.none) = true) from by simp)]
        first
          | exact wpAny_bind (wpAny_pure (wpAny_bind fin))
          | exact wpAny_bind fin
      | @bare x c ts b₀ suite np pos' hds2 l2 hc hsu r ih =>
        rintro ⟨b, hb1, hyes, hno⟩
        refine wpAny_handleBy_cons (codeAny_handlers_test (test hc ((PySem.W.exm_one (M := model X.prog X.w) J3.kIn LT hb1).here ?_))) (by intro q; cases q)
        cases b with
        | true =>
          refine codeAny_handlers_suite (HandSPX.lands_againZ fl3 fun h4 fl4 up4 => ?_)
          have J4 : Inv X pins σ' H' { s' with heap := h4 } := J.landed nb fl4.1 ((up.trans up3).trans up4) os ag
          obtain ⟨oe4, vs4, he4, hz4, hd4⟩ := fl4.there
          refine wpAny_mono ((hsu a oe4 cls d (X.pn ++ pins) hz4 ⟨_, hd4⟩).run [] _ _ H' _ (J4.suite he4 hd4 na nL nF) (hyes rfl a na)) (fun f s6 hsp => ?_) (fun _ _ z => False.elim z)
          cases f with
          | next => obtain ⟨σ6, H6, S6, q6⟩ := hsp; exact ⟨_, _, S6.unsuite ok, q6⟩
          | brk => obtain ⟨σ6, H6, S6, q6⟩ := hsp; exact ⟨_, _, S6.unsuite ok, q6⟩
          | cont => obtain ⟨σ6, H6, S6, q6⟩ := hsp; exact ⟨_, _, S6.unsuite ok, q6⟩
          | ret u => obtain ⟨v6, σ6, H6, S6, r6, q6⟩ := hsp; exact ⟨_, _, _, S6.unsuite ok, r6, q6⟩
        | false => exact ih (hno rfl)
      | @named x n i c ts b₀ suite np pos' hds2 l2 hi hln hc hsu r ih =>
        rintro ⟨b, hb1, hyes, hno⟩
        refine wpAny_handleBy_cons (codeAny_handlers_test (test hc ((PySem.W.exm_one (M := model X.prog X.w) J3.kIn LT hb1).here ?_))) (by intro q; cases q)
        cases b with
        | true =>
          refine codeAny_handlers_suite_as (HandSPX.lands_againZ fl3 fun h4 fl4 up4 => ?_)
          have J4 : Inv X pins σ' H' { s' with heap := h4 } := J.landed nb fl4.1 ((up.trans up3).trans up4) os ag
          obtain ⟨oe4, vs4, he4, hz4, hd4⟩ := fl4.there
          refine store_ok (X := X.suite a ((a, oe4) :: (X.pn ++ pins))) (v := .ref a) (J4.suite he4 hd4 na nL nF) hN hi (.inl hln) rfl (fun s5 S5 => ?_) (.inr hln)
          refine wpAny_mono ((hsu a oe4 cls d (X.pn ++ pins) hz4 ⟨_, hd4⟩).run [] s5 _ H' _ S5 (hyes rfl a na)) (fun f s6 hsp => ?_) (fun _ _ z => False.elim z)
          have fin : ∀ {σ6 : L2.St} {H6 : Hp} {Q : Shared → Prop}, Inv (X.suite a ((a, oe4) :: (X.pn ++ pins))) [] σ6 H6 s6 → (∀ s7, Inv X pins (σ6.set i none) H6 s7 → Q s7) →
              wpAny (model X.prog X.w) X.A (do bindName X.env n .none; unbindBehindTheSuite X.env n pos') (fun _ s7 => Q s7) X.xe s6 := fun {σ6 H6 Q} S6 hq => gone_ok (S6.unsuite ok) hN hi hln hq
          cases f with
          | next => obtain ⟨σ6, H6, S6, q6⟩ := hsp; exact fin S6 fun s7 J7 => ⟨_, _, J7, q6⟩
          | brk => obtain ⟨σ6, H6, S6, q6⟩ := hsp; exact fin S6 fun s7 J7 => ⟨_, _, J7, q6⟩
          | cont => obtain ⟨σ6, H6, S6, q6⟩ := hsp; exact fin S6 fun s7 J7 => ⟨_, _, J7, q6⟩
          | ret u => obtain ⟨v6, σ6, H6, S6, r6, q6⟩ := hsp; exact fin S6 fun s7 J7 => ⟨_, _, _, J7, r6, q6⟩
        | false => exact ih (hno rfl)
    exact go hh w
  refine wpAny_mono ((hb (wCl X.K Wout D l) (X.pn ++ pins) wish catch_ PassesOwn.looking).run [] s σ H { D with nx := u D } (I.toTry _) h) (fun f s1 hsp => ?_) (fun e s1 he => he)
  cases f with
  | next => obtain ⟨σ', H', J', q⟩ := hsp; exact ho.run pins s1 σ' H' D (J'.ofTry ok) q
  | brk => obtain ⟨σ', H', J', q⟩ := hsp; exact ⟨σ', H', J'.ofTry ok, q⟩
  | cont => obtain ⟨σ', H', J', q⟩ := hsp; exact ⟨σ', H', J'.ofTry ok, q⟩
  | ret u => obtain ⟨v, σ', H', J', r, q⟩ := hsp; exact ⟨v, σ', H', J'.ofTry ok, r, q⟩
end

theorem excB_ok {K : PySem.W.Frag} {D : Addr} (h : excB K D = true) : ExcC K D := by
  unfold excB at h
  simp only [Bool.and_eq_true, decide_eq_true_eq] at h
  obtain ⟨⟨⟨⟨⟨⟨⟨h1, h2⟩, h3⟩, h4⟩, h5⟩, h6⟩, h7⟩, h8⟩ := h
  exact ⟨h1, h2, h3, h4, h5, h6, h7, h8⟩
theorem XF.mk_of {K : PySem.W.Frag} {mg : Str → Option Value} {ks : List Nat} {ca : Nat → Addr} (h : ∀ n ∈ ks, mg (exN n) = some (.ref (ca n))) (c : xchk K (ks.map fun n => (n, ca n)) = true) : XF K mg ks ca := by
  unfold xchk at c
  rw [List.all_eq_true] at c
  have g : ∀ n ∈ ks, _ := fun n hn => c (n, ca n) (List.mem_map_of_mem hn)
  simp only [Bool.and_eq_true, decide_eq_true_eq, List.all_eq_true] at g
  refine ⟨h, fun n hn m hm => ?_, fun n hn m hm => ?_, fun n hn => ?_, fun n hn => ?_, fun n hn => ?_, fun n hn => ?_, fun n hn => ?_, fun n hn => ?_, fun n hn h16 => ?_⟩ <;> obtain ⟨⟨⟨⟨⟨⟨⟨g1, g2⟩, g3⟩, g4⟩, g5⟩, g6⟩, g7⟩, g8⟩ := g n hn
  · exact (g1 (m, ca m) (List.mem_map_of_mem hm)).1
  · exact (g1 (m, ca m) (List.mem_map_of_mem hm)).2
  · exact g2
  · exact excB_ok g3
  · exact xfB_ok g4
  · exact g5
  · exact g6
  · exact g7
  · rw [decide_eq_true h16] at g8; exact g8
def inN (n : Nat) (ks : List Nat) : Bool := ks.any (· == n)
theorem inN_mem {n : Nat} {ks : List Nat} (h : inN n ks = true) : n ∈ ks := by
  unfold inN at h
  rw [List.any_eq_true] at h
  obtain ⟨x, hx, e⟩ := h
  rw [beq_iff_eq] at e
  exact e ▸ hx

/-! ### other exceptions in hand -/
section
variable {K : PySem.W.Frag} {mg : Str → Option Value} {G G' : V → Nat → Option Addr → Prop} {I H : Hp} {F : Lab} {σ : L2.St} {ρ : Rho}
mutual
theorem Dd.reG : ∀ {v : V} {d : D}, Dd ⟨K, mg, G⟩ I v d → Dd ⟨K, mg, G'⟩ I v d
  | _, _, .non => .non
  | _, _, .bl b => .bl b
  | _, _, .int i => .int i
  | _, _, .str x => .str x
  | _, _, .lst h hs => .lst h (DdAll.reG hs)
  | _, _, .tup h z hs => .tup h z (DdAll.reG hs)
  | _, _, .ins c h hs => .ins c h (DdFs.reG hs)
  | _, _, .dic h hs => .dic h (DdKv.reG hs)
  | _, _, .dicL h hs => .dicL h (DdKv.reG hs)
  | _, _, .scr h l => .scr h l
  | _, _, .fn h => .fn h
theorem DdAll.reG : ∀ {vs : List V} {ds : List D}, DdAll ⟨K, mg, G⟩ I vs ds → DdAll ⟨K, mg, G'⟩ I vs ds
  | _, _, .nil => .nil
  | _, _, .cons h hs => .cons (Dd.reG h) (DdAll.reG hs)
theorem DdFs.reG : ∀ {vs : List (Str × V)} {ds : List (D × D)}, DdFs ⟨K, mg, G⟩ I vs ds → DdFs ⟨K, mg, G'⟩ I vs ds
  | _, _, .nil => .nil
  | _, _, .cons h hs => .cons (Dd.reG h) (DdFs.reG hs)
theorem DdKv.reG : ∀ {vs : List (Key × V)} {ds : List (D × D)}, DdKv ⟨K, mg, G⟩ I vs ds → DdKv ⟨K, mg, G'⟩ I vs ds
  | _, _, .nil => .nil
  | _, _, .cons h hs => .cons (Dd.reG h) (DdKv.reG hs)
end
theorem OwnAt.reG {a : Addr} {fp : List Addr} {c : C} (h : OwnAt ⟨K, mg, G⟩ I H a fp c) : OwnAt ⟨K, mg, G'⟩ I H a fp c := by
  cases c with
  | lst ds => obtain ⟨e, vs, h1, h2⟩ := h; exact ⟨e, vs, h1, h2.reG⟩
  | dic ds => obtain ⟨e, vs, h1, h2⟩ := h; exact ⟨e, vs, h1, Paired.mapP h2 fun _ _ z => ⟨z.1, z.2.reG⟩⟩
  | dcN ds => obtain ⟨e, vs, h1, h2⟩ := h; exact ⟨e, vs, h1, Paired.mapP h2 fun _ _ z => ⟨z.1, z.2.1, z.2.2.1, z.2.2.2.reG⟩⟩
  | st b => exact h
  | desk hh ps qs =>
    obtain ⟨Cd, dx, b, c, vh, xs, ys, e, n1, n2, n3, h1, h2, h3, h4, h5, h6, h7⟩ := h
    exact ⟨Cd, dx, b, c, vh, xs, ys, e, n1, n2, n3, h1, h2, h3.reG, h4, h5.reG, h6, h7.reG⟩
  | ll dss =>
    obtain ⟨as, e, n, h1, h2⟩ := h
    exact ⟨as, e, n, h1, Paired.mapP h2 fun _ _ ⟨vs, h3, h4⟩ => ⟨vs, h3, h4.reG⟩⟩
theorem Own.reG {j : Option Nat} {N : Addr → Prop} {a : Addr} {c : C} (h : Own ⟨K, mg, G⟩ F I H j N a c) : Own ⟨K, mg, G'⟩ F I H j N a c := by
  obtain ⟨fp, h1, h2⟩ := h
  exact ⟨fp, h1.reG, h2⟩
theorem XdOk.reG {d : Option Addr} {fs : List (Str × D)} (h : XdOk ⟨K, mg, G⟩ I d fs) : XdOk ⟨K, mg, G'⟩ I d fs := by
  rcases h with h | ⟨dd, fv, h1, h2, h3⟩
  · exact .inl h
  · exact .inr ⟨dd, fv, h1, h2, Paired.mapP h3 fun _ _ z => ⟨z.1, z.2.reG⟩⟩
theorem SlotOk.reG {i : Nat} {v : V} {s : S} (n : ∀ x, s ≠ .exc x) (h : SlotOk ⟨K, mg, G⟩ F I H i v s) : SlotOk ⟨K, mg, G'⟩ F I H i v s := by
  cases s with
  | d d => exact Dd.reG h
  | own c => obtain ⟨a, e, h⟩ := h; exact ⟨a, e, h.reG⟩
  | lent a c => exact ⟨h.1, h.2.reG⟩
  | exc x => exact absurd rfl (n x)
/-- no exception is in hand: any may be said to be -/
theorem Rel.inG (R : Rel ⟨K, mg, noG⟩ F I H σ ρ) : Rel ⟨K, mg, G⟩ F I H σ ρ := ⟨R.sub, R.lab, R.len, fun i s e => by
  obtain ⟨v, h1, h2⟩ := R.slot i s e
  refine ⟨v, h1, h2.reG fun x z => ?_⟩
  subst z
  obtain ⟨_, g, _⟩ := h2
  exact g⟩
/-- all exceptions are let go -/
def wipeX (ρ : Rho) : Rho := ρ.map fun s => match s with
  | some (.exc _) => none
  | s => s
theorem wipeX_get {i : Nat} {s : S} (h : (wipeX ρ)[i]? = some (some s)) : ρ[i]? = some (some s) ∧ ∀ x, s ≠ .exc x := by
  unfold wipeX at h
  rw [List.getElem?_map, Option.map_eq_some_iff] at h
  obtain ⟨o, h1, h2⟩ := h
  split at h2
  · cases h2
  · rename_i hn
    subst h2
    exact ⟨h1, fun x z => hn x (by rw [z])⟩
theorem Rel.outG (R : Rel ⟨K, mg, G⟩ F I H σ ρ) : Rel ⟨K, mg, G'⟩ F I H σ (wipeX ρ) := ⟨R.sub, R.lab, by unfold wipeX; rw [List.length_map]; exact R.len, fun i s e => by
  obtain ⟨h1, h2⟩ := wipeX_get e
  obtain ⟨v, h3, h4⟩ := R.slot i s h1
  exact ⟨v, h3, h4.reG h2⟩⟩
theorem Rel.unset {i : Nat} (R : Rel ⟨K, mg, G⟩ F I H σ ρ) : Rel ⟨K, mg, G⟩ F I H (σ.set i none) (ρ.set i none) := ⟨R.sub, R.lab, by simpa using R.len, fun k s e => by
  by_cases hk : i = k
  · subst hk
    by_cases hl : i < ρ.length
    · rw [List.getElem?_set_self hl] at e; cases e
    · rw [List.getElem?_eq_none (by simpa using hl)] at e; cases e
  · rw [List.getElem?_set_ne hk] at e
    obtain ⟨v, h1, h2⟩ := R.slot k s e
    exact ⟨v, by rw [List.getElem?_set_ne hk]; exact h1, h2⟩⟩
def plainO : O → Prop
  | .exc _ => False
  | _ => True
theorem ResOk.reG {H0 : Hp} {v : V} {o : O} (n : plainO o) (h : ResOk ⟨K, mg, G⟩ F I H0 H σ v o) : ResOk ⟨K, mg, G'⟩ F I H0 H σ v o := by
  cases o with
  | d d => exact Dd.reG h
  | tmp c => obtain ⟨a, e, h⟩ := h; exact ⟨a, e, h.reG⟩
  | loc j => exact h
  | exc x => exact n.elim
end

def outX (o : Option Nat) (ρ : Rho) : Rho := match o with
  | none => wipeX ρ
  | some i => (wipeX ρ).set i none
def bindX (o : Option Nat) (x : Exn) (ρ : Rho) : Rho := match o with
  | none => ρ
  | some i => ρ.set i (some (.exc x))
def suiteE (o : Option Nat) (E : DEnds) : DEnds where
  nx ρ := E.nx (outX o ρ)
  bk ρ := E.bk (outX o ρ)
  ct ρ := E.ct (outX o ρ)
  rt r ρ := plainO r ∧ E.rt r (wipeX ρ)
  ex _ _ := False
def dHand (E : DEnds) (x : Exn) (ρ : Rho) : List (Nat × Option Nat × DS) → Prop
  | [] => E.ex x ρ
  | (T, o, b) :: r => (subX x.nm T = true → b (suiteE o E) (bindX o x ρ)) ∧ (subX x.nm T = false → dHand E x ρ r)
def dTry (ks : List Nat) (f : DS) (cs : List (Nat × Option Nat × DS)) (g : DS) : DS := fun E ρ => f { E with nx := fun ρ' => g E ρ', ex := fun x ρ' => inN x.nm ks = true ∧ dHand E x ρ' cs } ρ
def dRaise (n : Nat) : DS := fun E ρ => E.ex ⟨n, []⟩ ρ
def dRaiseF (n : Nat) (fs : List Str) (g : DA) : DS := fun E ρ => g ρ (fun os ρ1 => onlyK os fun ds => ds.length = fs.length ∧ E.ex ⟨n, (fs.zip ds).reverse⟩ ρ1) E.ex
section
variable {K : PySem.W.Frag} {mg : Str → Option Value} {W : WX}
theorem w_hand {ks : List Nat} {ca : Nat → Addr} (xf : XF K mg ks ca) {E : DEnds} {D : Ends} {F : Lab} {I H : Hp} (k : SEnd ⟨K, mg, noG⟩ W F I H E D) {x : Exn} {cls : Value} {d : Option Addr} {F' : Lab} {I' H' : Hp} {σ' : L2.St} {ρ' : Rho} (hx : x.nm ∈ ks)
    (s' : Step F I H F' I' H') (R' : Rel ⟨K, mg, noG⟩ F' I' H' σ' ρ') (ex : ExOk ⟨K, mg, noG⟩ I' x cls d) : ∀ (cs : List (Nat × Option Nat × DS)), (∀ c ∈ cs, c.1 ∈ ks) → dHand E x ρ' cs → wCl K W D (clsOf K mg ca cs) cls d σ' H'
  | [], _, h => k.ex x ρ' cls d σ' F' I' H' h s' R' ex
  | (T, o, b) :: r, hc, h => by
    obtain ⟨Cx, e1, rfl, xd⟩ := ex
    have e2 : Cx = ca x.nm := by
      have := xf.has x.nm hx
      rw [show mg (exN x.nm) = some (.ref Cx) from e1] at this
      cases this; rfl
    subst e2
    have kk := k.later s'
    refine ⟨subX x.nm T, xf.exm _ hx T (hc _ List.mem_cons_self), fun hb a na => ?_, fun hb => w_hand xf k hx s' R' ⟨_, e1, rfl, xd⟩ r (fun c hm => hc c (List.mem_cons_of_mem _ hm)) (h.2 hb)⟩
    have h1 := h.1 hb
    have RS : Rel ⟨K, mg, Ga mg a (.ref (ca x.nm)) d⟩ F' I' H' (bindE o a σ') (bindX o x ρ') := by
      cases o with
      | none => exact R'.inG
      | some i => exact (R'.inG (G := Ga mg a (.ref (ca x.nm)) d)).setD (s := .exc x) (v := .ref a) ⟨d, ⟨rfl, e1, rfl⟩, xd.reG⟩
    refine ⟨F', I', _, suiteE o E, RS, h1, ⟨fun ρ2 σ2 F2 I2 H2 h2 s2 R2 => ?_, fun ρ2 σ2 F2 I2 H2 h2 s2 R2 => ?_, fun ρ2 σ2 F2 I2 H2 h2 s2 R2 => ?_, fun o2 ρ2 v σ2 F2 I2 H2 h2 s2 R2 r2 => ?_, fun _ _ _ _ _ _ _ _ h2 _ _ _ => h2.elim⟩⟩
    · cases o with
      | none => exact kk.nx _ σ2 F2 I2 H2 h2 s2 R2.outG
      | some i => exact kk.nx _ (σ2.set i none) F2 I2 H2 h2 s2 R2.outG.unset
    · cases o with
      | none => exact kk.bk _ σ2 F2 I2 H2 h2 s2 R2.outG
      | some i => exact kk.bk _ (σ2.set i none) F2 I2 H2 h2 s2 R2.outG.unset
    · cases o with
      | none => exact kk.ct _ σ2 F2 I2 H2 h2 s2 R2.outG
      | some i => exact kk.ct _ (σ2.set i none) F2 I2 H2 h2 s2 R2.outG.unset
    · have := kk.rt o2 _ v σ2 F2 I2 H2 h2.2 s2 R2.outG (r2.reG h2.1)
      cases o <;> exact this
theorem w_try {ks : List Nat} {ca : Nat → Addr} (xf : XF K mg ks ca) {f g : DS} {cs : List (Nat × Option Nat × DS)} (hc : ∀ c ∈ cs, c.1 ∈ ks) (D : Ends) (σ : L2.St) (H : Hp) (q : tS ⟨K, mg, noG⟩ W (dTry ks f cs g) D σ H) :
    tS ⟨K, mg, noG⟩ (wCl K W D (clsOf K mg ca cs)) f { D with nx := tS ⟨K, mg, noG⟩ W g D } σ H := by
  obtain ⟨F, I, ρ, E, R, f1, k⟩ := q
  refine ⟨F, I, ρ, _, R, f1, ⟨fun ρ2 σ2 F2 I2 H2 h2 s2 R2 => ⟨F2, I2, ρ2, E, R2, h2, k.later s2⟩, k.bk, k.ct, k.rt, fun x ρ2 cls d σ2 F2 I2 H2 h2 s2 R2 ex => ?_⟩⟩
  exact w_hand xf k (inN_mem h2.1) s2 R2 ex cs hc h2.2
end
section
variable {X : Cx} {W : WX} {pos pos2 p p2 : Pos} {body orelse : List Stmt} {h₀ : ExceptHandler} {hds : List ExceptHandler} {f g : DS} {cs : List (Nat × Option Nat × DS)} {ks : List Nat} {ca : Nat → Addr}
theorem z_try (xf : XF X.K X.mg ks ca) (hs : X.stack = X.env :: X.outer) (hf : X.env.frame = some X.env.locals) (hN : X.N.Nodup) (tk : L2.Takes X W)
    (hb : ∀ (W : WX) (pn : List (Addr × Obj)) (xe : Value → Shared → Prop), L2.Takes (X.tr pn xe) W → PassesOwn (model X.prog X.w) X.A X.env xe → PSsd (X.tr pn xe) noG W body f)
    (hh : ClsD X ks ca (h₀ :: hds) cs) (ho : PSsd X noG W orelse g) : PSd X noG W (.Try body (h₀ :: hds) orelse [] pos) (dTry ks f cs g) :=
  PS.weak (ps_tryG (tb := fun W => tS ⟨X.K, X.mg, noG⟩ W f) ho hs hf hN tk hb (hh.ok xf).1) fun D σ H q => w_try xf (hh.ok xf).2 D σ H q
theorem z_raise {n j : Nat} {x m : Str} (xf : XF X.K X.mg ks ca) (hc : X.calm = true) (tk : L2.Takes X W) (hn : n ∈ ks) (h16 : n ≤ 16) (hx : x = exN n) (hg : Gl X x) (hd : (x == ("__debug__" : Str)) = false := by decide) :
    PSd X noG W (.Raise (some (.Call (.Name x p) [.Constant (.str m) j p2] [] pos)) none pos2) (dRaise n) :=
  PS.weak (ps_raise hc tk (pmk_own PySem.F.excBase_ValueError (xf.own n hn h16) (by rw [hx]; exact xf.has n hn) (xf.kp n hn) (raises_own (xf.sub n hn) (xf.typ n hn)) hg hd)) fun D σ H q => by
    obtain ⟨F, I, ρ, E, R, f1, k⟩ := q
    exact k.ex ⟨n, []⟩ ρ _ _ σ F I H f1 (Step.refl ..) R ⟨_, xf.has n hn, rfl, .inl ⟨rfl, rfl⟩⟩
end
end Dt

namespace Dt
open PySem PySem.Spec PySem.Calls PyProof.Rows L2

/-- p's object is an exception in hand -/
def HandX (X : Cx) (p : Addr × Obj) : Prop := p ∈ X.pn ∧ ∃ vs, p.2.data = .fields vs
/-- what is in hand in a context: p's object, of the class cls, its own dict d -/
structure InHand (X : Cx) (p : Addr × Obj) (cls : Value) (d : Option Addr) : Prop where
  hx : HandX X p
  z : Zc cls d p.2
def dFld (n0 : List Nat) (f : Str) (fa : DE) : DE := fun ρ P PX => fa ρ (fun o ρ1 => match o with
  | .exc x => inN x.nm n0 = true ∧ getK (x.fs.lookup f) fun v => P (.d v) ρ1
  | _ => False) PX
section
variable {X : Cx} {W : WX} {pos pos' tp : Pos} {a : Expr} {fa : DE} {ks : List Nat} {ca : Nat → Addr} {p : Addr × Obj} {cls : Value} {d : Option Addr}
theorem paired_lookup {q : Pm} {I : Hp} {f : Str} : ∀ {fv : List (Str × V)} {fs : List (Str × D)} {v : D}, Paired (fun (u : Str × V) (q' : Str × D) => u.1 = q'.1 ∧ Dd q I u.2 q'.2) fv fs → fs.lookup f = some v → ∃ u, fv.lookup f = some u ∧ Dd q I u v
  | _, _, _, .nil, h => by simp at h
  | (n1, u1) :: fv, (n2, d2) :: fs, v, .cons r rr, h => by
    obtain ⟨rfl, r2⟩ := r
    simp only [List.lookup] at h ⊢
    cases e : (f == n1) with
    | true => rw [e] at h; simp at h; subst h; exact ⟨u1, by simp, r2⟩
    | false => rw [e] at h; obtain ⟨u, h1, h2⟩ := paired_lookup rr h; exact ⟨u, h1, h2⟩
/-- e.f of the exception in hand -/
theorem e_fld {f : Str} {n0 : List Nat} (xf : XF X.K X.mg ks ca) (ih : InHand X p cls d) (hno : ∀ n ∈ n0, n ∈ ks ∧ PySem.W.findIn X.K (.ref (ca n)) f = some none) (ha : PEd X (Ga X.mg p.1 cls d) W a fa)
    (hb : attributeBase a f X.env (eval a X.env) = eval a X.env := by rfl) : PEd X (Ga X.mg p.1 cls d) W (.Attribute a f pos) (dFld n0 f fa) := by
  let QQ : VK → VK := fun Q x H1 => ∃ D od v, x = .ref p.1 ∧ cls = .ref D ∧ d = some od ∧ XfC X.K D ∧ PySem.W.findIn X.K (.ref D) f = some none ∧ (∃ fv, H1 od = some (.xd fv) ∧ fv.lookup f = some v) ∧ Q v H1
  refine ⟨fun pins s σ H Q J h => attr_of hb (thn (ha.run pins s σ H (QQ Q) J ?_) fun u s1 hh => ?_)⟩
  · obtain ⟨F, I, ρ, P, PX, R, f1, k, x⟩ := h
    refine ⟨F, I, ρ, _, PX, R, f1, fun o ρ1 v F1 I1 H1 f2 s1 R1 r1 => ?_, x⟩
    split at f2
    · rename_i x0
      obtain ⟨hin, f2⟩ := f2
      obtain ⟨v0, e0, f2⟩ := getK_of f2
      obtain ⟨hk, hf⟩ := hno x0.nm (inN_mem hin)
      obtain ⟨dd, ⟨rfl, e1, rfl⟩, xd⟩ := r1
      have e2 := xf.has x0.nm hk
      rw [e1] at e2
      rcases xd with ⟨z, _⟩ | ⟨od, fv, h1, h2, h3⟩
      · rw [z] at e0; cases e0
      · obtain ⟨u, hu, ru⟩ := paired_lookup h3 e0
        exact ⟨_, od, u, rfl, Option.some.inj e2, h1, xf.xf _ hk, hf, ⟨fv, R1.sub _ _ h2, hu⟩, k _ _ _ _ _ _ f2 s1 R1 ru⟩
    · exact f2.elim
  · obtain ⟨x, H1, J1, rx, D, od, v, rfl, hD, hd, xc, hf, ⟨fv, e, l⟩, q⟩ := hh
    obtain rfl : u = Value.ref p.1 := rx
    have hx : ObjOk X.prog X.w H1 s1.heap od (.xd fv) := J1.hok od _ e
    obtain ⟨mA, hns, hr⟩ := hx
    obtain ⟨ob, ho, hl⟩ := lookIn_ns hns
    obtain ⟨u, hu, ru⟩ := RelO.some_of (v := v) (o := mA f) (by rw [← l]; exact hr f)
    obtain ⟨h1, vs, h2⟩ := ih.hx
    obtain ⟨hget, _⟩ := J1.pin p (List.mem_append.mpr (.inl h1))
    have z := ih.z
    rw [hD, hd] at z
    have Jx : PySem.W.InstAt s1.heap p.1 p.2 D (some ob) := ⟨hget, z.1, by unfold PySem.W.notCls; rw [h2] <;> trivial, by rw [z.2]; exact ho⟩
    exact HandSPX.exc_get J1.kIn Jx xc.ga xc.gg xc.exC (PySem.W.findObj_own xc.hdC hf rfl (by rw [hl, hu])) (handed_of ru) ⟨v, H1, J1.tok _, ru, q⟩
end

theorem inHand_suite {X : Cx} {a : Addr} {oe : Obj} {pn : List (Addr × Obj)} {cls : Value} {d : Option Addr} (z : Zc cls d oe) (hd : ∃ vs, oe.data = .fields vs) : InHand (X.suite a ((a, oe) :: pn)) (a, oe) cls d := ⟨⟨by show (a, oe) ∈ (a, oe) :: pn; simp, hd⟩, z⟩
end Dt

namespace Dt
open PySem PySem.Spec PyProof.Rows L2

/-! ### enumerate and zip over lists and tuples alike (b: it is a tuple) -/
def SqK (K : PySem.W.Frag) (H : Hp) (b : Bool) (a : Addr) (xs : List V) : Prop := match b with
  | false => SqL K H a xs
  | true => SqT K H a xs
def isSq (b : Bool) (h : Heap) (a : Addr) (its : Array Value) : Prop := match b with
  | false => h.IsList a its
  | true => h.IsTuple a its
def itSq (b : Bool) (h : Heap) (it a : Addr) (i : Nat) : Prop := match b with
  | false => h.IsListIter it a i
  | true => h.IsTupleIter it a i
def obSq (b : Bool) (a : Addr) : Obj := match b with
  | false => { cls := .type "list_iterator", data := .fields #[.ref a, .int 0 0] }
  | true => { cls := .type "tuple_iterator", data := .fields #[.ref a, .int 0 0] }
theorem sqDraws {prog : Program} {w : World} {A : Around} (hh : A.handled = none) (b : Bool) (it a : Addr) (hne : a ≠ it) (items : Array Value) :
    Draws prog w A it [it, a] items.size (fun i v => items[i]? = some v) (fun i h => itSq b h it a i ∧ isSq b h a items) := by
  cases b
  · exact Draws.list hh it a hne items
  · exact Draws.tuple hh it a hne items
theorem sqBegins (b : Bool) (a : Addr) (items : Array Value) : Begins (.ref a) (obSq b a) fun h => isSq b h a items := by
  cases b
  · exact begins_list a items
  · exact begins_tuple a items
theorem itSq_at {b : Bool} {h h' : Heap} {it a : Addr} {i : Nat} (x : itSq b h it a i) (k : ∀ o, h.get? it = some o → h'.get? it = some o) : itSq b h' it a i := by
  cases b <;> (obtain ⟨o, h1, h2, h3⟩ := x; exact ⟨o, k o h1, h2, h3⟩)
theorem itSq_new {b : Bool} {h : Heap} {it a : Addr} (e : h.get? it = some (obSq b a)) : itSq b h it a 0 := by
  cases b <;> exact ⟨_, e, rfl, rfl⟩
theorem itSq_obj {b : Bool} {h : Heap} {it a : Addr} {i : Nat} (x : itSq b h it a i) : ∃ o, h.get? it = some o ∧ ∀ v, o.data ≠ .cell v := by
  cases b <;> (obtain ⟨o, h1, h2, h3⟩ := x; exact ⟨o, h1, fun v z => by rw [h3] at z; cases z⟩)
theorem Inv.sq {X : Cx} {pins : List (Addr × Obj)} {σ : L2.St} {H : Hp} {s : Shared} {b : Bool} {a : Addr} {xs : List V} (J : L2.Inv X pins σ H s) (h : SqK X.K H b a xs) : ∃ its : List Value, Vals xs its ∧ isSq b s.heap a its.toArray ∧ xs.length ≤ sizeLine := by
  cases b
  · obtain ⟨its, r, p, z⟩ := J.list h; exact ⟨its, r, p.isList, z⟩
  · obtain ⟨its, r, p, z⟩ := J.tuple h; exact ⟨its, r, p, z⟩
theorem Inv.sq_inj {X : Cx} {pins : List (Addr × Obj)} {σ : L2.St} {H : Hp} {s : Shared} {b : Bool} {a : Addr} {xs ys : List V} (J : L2.Inv X pins σ H s) (h : SqK X.K H b a xs) (h' : SqK X.K H b a ys) : xs = ys := by
  cases b
  · exact J.list_inj h h'
  · exact J.tuple_inj h h'
theorem isSq_lt {b : Bool} {h : Heap} {a : Addr} {its : Array Value} (x : isSq b h a its) : a < h.objs.size := by
  cases b
  · obtain ⟨o, e, _⟩ := x; exact Heap.lt_size e
  · obtain ⟨o, e, _⟩ := x; exact Heap.lt_size e
/-- the sequence at a as it stands at each turn, each item in a new pair with its number from k on -/
def IteS (K : PySem.W.Frag) (b : Bool) (k : Int) (a : Addr) : It :=
  ⟨fun i H => ∃ (xs : List V) (x : V), SqK K H b a xs ∧ xs[i]? = some x, fun i H v H' => ∃ T x, v = .ref T ∧ H T = none ∧ H' = upd H T (.tup [.int (k + (i : Nat)), x]) ∧ ∀ xs, SqK K H b a xs → xs[i]? = some x, fun i H => ∃ xs : List V, SqK K H b a xs ∧ xs.length = i⟩
theorem new_pair {X : Cx} {H : Hp} {h : Heap} {T : Addr} {x y : V} {u v : Value} (rx : RelV x u) (ry : RelV y v) (hT : h.IsTuple T #[u, v]) : ObjOk X.prog X.w (upd H T (.tup [x, y])) h T (.tup [x, y]) := by
  obtain ⟨o, e, c, n, d⟩ := hT
  exact ⟨by show 2 ≤ sizeLine; decide, [u, v], .cons rx (.cons ry .nil), ⟨o, e, c, n, d⟩⟩
theorem keep_tup {h h' : Heap} {T : Addr} {vs : Array Value} {wr : List Addr} (x : h.IsTuple T vs) (n : T ∉ wr) (k : ∀ b o, b ∉ wr → h.get? b = some o → h'.get? b = some o) : h'.IsTuple T vs := by
  obtain ⟨o, e, r⟩ := x
  exact ⟨o, k T o n e, r⟩
theorem turn_enumS {P : Program} {w : World} {K : PySem.W.Frag} {elts : List Expr} {kk : Nat} {tpos : Pos} (b : Bool) (k : Int) (a e it : Addr) (hai : a ≠ it) (hae : a ≠ e) (hei : e ≠ it) :
    Turn P w K (.Tuple elts kk tpos) (IteS K b k a) [e, it] e (fun i h => (∃ old, IsEnum h e it (k + ((i : Nat) : Int)) old) ∧ itSq b h it a i) where
  mem := by simp
  obj := fun i h st c hc => by
    obtain ⟨⟨old, he⟩, hi⟩ := st
    have e' : c = e ∨ c = it := by simpa using hc
    rcases e' with rfl | rfl
    · exact ⟨_, he, fun v q => nomatch q⟩
    · exact itSq_obj hi
  keep := fun i h h' st kp => let ⟨⟨old, he⟩, hi⟩ := st; ⟨⟨old, kp e (by simp) _ he⟩, itSq_at hi fun o q => kp it (by simp) o q⟩
  item := by
    intro X hP hw hK hc i pins s σ H E J hf st hg
    subst hP hw hK
    obtain ⟨xs, x, hq, hx⟩ := hg
    obtain ⟨its, rv, p, hz⟩ := Inv.sq J hq
    obtain ⟨u, hu, ru⟩ := rv.get hx
    have hil : i < its.toArray.size := by
      have := (List.getElem?_eq_some_iff.mp hu).1
      simpa using this
    have W := WalksT.enumFrom k (sqDraws (prog := X.prog) (w := X.w) (A := X.A.in1) (J.ok.hd hc) b it a hai its.toArray) e hei (by simp; exact ⟨hei, Ne.symm hae⟩) (by simp)
    refine W.item i s _ _ hil ⟨st.1, st.2, p⟩ fun T vals h' tk hP hT0 hT hM kp => ⟨_, rfl, W.go elts kk tpos i T _ _ _ hM fun h'' st' kp' => ?_⟩
    obtain ⟨t, x', hx', rfl⟩ := hP
    have ex : x' = u := by
      have hx' : its.toArray[i]? = some x' := hx'
      rw [List.getElem?_toArray, hu] at hx'
      exact (Option.some.inj hx').symm
    subst ex
    have hT2 := keep_tup hT (W.apart i T h' hM) kp'
    have J1 : L2.Inv X pins σ (upd H T (.tup [.int (k + (i : Nat)), x])) { s with heap := h'', toks := tk } := J.turnedNew (ch := [e, it]) (fun c o hb q => kp' c o hb (kp c o hb q)) hf hT0 (new_pair ⟨_, rfl⟩ ru hT2)
    refine ⟨.ref T, _, J1, rfl, ⟨T, x, rfl, J.hok.fresh hT0, rfl, fun ys hy => by rw [Inv.sq_inj J hy hq]; exact hx⟩, ⟨st'.1, st'.2.1⟩, fun c hc' => ?_⟩
    have hne : c ≠ T := fun z => by
      obtain ⟨o, ho, _⟩ : ∃ o, s.heap.get? c = some o ∧ ∀ v, o.data ≠ .cell v := by
        have e' : c = e ∨ c = it := by simpa using hc'
        rcases e' with rfl | rfl
        · obtain ⟨old, he⟩ := st.1; exact ⟨_, he, fun v q => nomatch q⟩
        · exact itSq_obj st.2
      exact absurd (Heap.lt_size ho) (Nat.not_lt.mpr (by rw [z]; exact hT0))
    rw [upd_ne hne]
    exact (hf c hc').1
  done := by
    intro X hP hw hK hc i pins s σ H E J hf st hg
    subst hP hw hK
    obtain ⟨xs, hq, hx⟩ := hg
    obtain ⟨its, rv, p, hz⟩ := Inv.sq J hq
    have hil : i = its.toArray.size := by rw [List.size_toArray, ← rv.length, hx]
    have W := WalksT.enumFrom k (sqDraws (prog := X.prog) (w := X.w) (A := X.A.in1) (J.ok.hd hc) b it a hai its.toArray) e hei (by simp; exact ⟨hei, Ne.symm hae⟩) (by simp)
    subst hil
    exact W.done s _ _ ⟨st.1, st.2, p⟩ fun h' tk kp => ⟨rfl, J.turnedL kp hf⟩
  self := fun A i s Q E st h => let ⟨⟨_, he⟩, _⟩ := st; wpAny_pyIter_enum he h
/-- two sequences side by side -/
def ItzS (K : PySem.W.Frag) (b b' : Bool) (a a' : Addr) : It :=
  ⟨fun i H => ∃ (xs ys : List V) (x y : V), SqK K H b a xs ∧ SqK K H b' a' ys ∧ xs[i]? = some x ∧ ys[i]? = some y,
    fun i H v H' => ∃ T x y, v = .ref T ∧ H T = none ∧ H' = upd H T (.tup [x, y]) ∧ (∀ xs, SqK K H b a xs → xs[i]? = some x) ∧ ∀ ys, SqK K H b' a' ys → ys[i]? = some y,
    fun i H => ∃ xs ys : List V, SqK K H b a xs ∧ SqK K H b' a' ys ∧ i = min xs.length ys.length⟩
theorem turn_zipS {P : Program} {w : World} {K : PySem.W.Frag} {elts : List Expr} {kk : Nat} {tpos : Pos} (b b' : Bool) (a a' z TI TO i1 i2 : Addr) (S : ZipSep2 z TI TO i1 i2 [i1, a] [i2, a']) (h1 : a ≠ i1) (h2 : a' ≠ i2) :
    Turn P w K (.Tuple elts kk tpos) (ItzS K b b' a a') [z, TI, TO, i1, i2] z (fun i h => IsZip h z TI TO .none ∧ IsTupOf2 h TI (.ref i1) (.ref i2) ∧ (∃ a1 a2, IsTupOf2 h TO a1 a2) ∧ itSq b h i1 a i ∧ itSq b' h i2 a' i) where
  mem := by simp
  obj := fun i h st c hc => by
    obtain ⟨hz, hTI, ⟨a1, a2, hTO⟩, hi1, hi2⟩ := st
    have e' : c = z ∨ c = TI ∨ c = TO ∨ c = i1 ∨ c = i2 := by simpa using hc
    rcases e' with rfl | rfl | rfl | rfl | rfl
    · exact ⟨_, hz, fun v q => nomatch q⟩
    · exact ⟨_, hTI, fun v q => nomatch q⟩
    · exact ⟨_, hTO, fun v q => nomatch q⟩
    · exact itSq_obj hi1
    · exact itSq_obj hi2
  keep := fun i h h' st kp => let ⟨hz, hTI, ⟨a1, a2, hTO⟩, hi1, hi2⟩ := st
    ⟨kp z (by simp) _ hz, kp TI (by simp) _ hTI, ⟨a1, a2, kp TO (by simp) _ hTO⟩, itSq_at hi1 fun o q => kp i1 (by simp) o q, itSq_at hi2 fun o q => kp i2 (by simp) o q⟩
  item := by
    intro X hP hw hK hc i pins s σ H E J hf st hg
    subst hP hw hK
    obtain ⟨xs, ys, x, y, hq, hq', hx, hy⟩ := hg
    obtain ⟨its, rv, p, hz⟩ := Inv.sq J hq
    obtain ⟨its', rv', p', hz'⟩ := Inv.sq J hq'
    obtain ⟨u, hu, ru⟩ := rv.get hx
    obtain ⟨u', hu', ru'⟩ := rv'.get hy
    have hil : i < min its.toArray.size its'.toArray.size := by
      have e1 := (List.getElem?_eq_some_iff.mp hu).1
      have e2 := (List.getElem?_eq_some_iff.mp hu').1
      rw [List.size_toArray, List.size_toArray]
      omega
    have W := WalksT.zipD2 S (sqDraws (prog := X.prog) (w := X.w) (A := X.A.in1) (J.ok.hd hc) b i1 a h1 its.toArray) (sqDraws (prog := X.prog) (w := X.w) (A := X.A.in1) (J.ok.hd hc) b' i2 a' h2 its'.toArray)
    obtain ⟨g1, g2, g3, g4, g5⟩ := st
    refine W.item i s _ _ hil ⟨g1, g2, g3, ⟨g4, p⟩, g5, p'⟩ fun T vals h' tk hP hT0 hT hM kp => ⟨_, rfl, W.go elts kk tpos i T _ _ _ hM fun h'' st' kp' => ?_⟩
    obtain ⟨x1, x2, hx1, hx2, rfl⟩ := hP
    have ex : x1 = u := by
      have hx1 : its.toArray[i]? = some x1 := hx1
      rw [List.getElem?_toArray, hu] at hx1
      exact (Option.some.inj hx1).symm
    have ex' : x2 = u' := by
      have hx2 : its'.toArray[i]? = some x2 := hx2
      rw [List.getElem?_toArray, hu'] at hx2
      exact (Option.some.inj hx2).symm
    subst ex ex'
    have hT2 := keep_tup hT (W.apart i T h' hM) kp'
    have sub : ∀ c ∈ [z, TO, i1, i2], c ∈ [z, TI, TO, i1, i2] := fun c hc' => by
      have e' : c = z ∨ c = TO ∨ c = i1 ∨ c = i2 := by simpa using hc'
      rcases e' with rfl | rfl | rfl | rfl <;> simp
    have J1 : L2.Inv X pins σ (upd H T (.tup [x, y])) { s with heap := h'', toks := tk } := J.turnedNew (ch := [z, TO, i1, i2]) (fun c o hb q => kp' c o hb (kp c o hb q)) (fun c hc' => hf c (sub c hc')) hT0 (new_pair ru ru' hT2)
    obtain ⟨k1, k2, k3, k4, k5⟩ := st'
    refine ⟨.ref T, _, J1, rfl, ⟨T, x, y, rfl, J.hok.fresh hT0, rfl, fun zs hy' => by rw [Inv.sq_inj J hy' hq]; exact hx, fun zs hy' => by rw [Inv.sq_inj J hy' hq']; exact hy⟩, ⟨k1, k2, k3, k4.1, k5.1⟩, fun c hc' => ?_⟩
    have hne : c ≠ T := fun q => by
      obtain ⟨o, ho⟩ : ∃ o, s.heap.get? c = some o := by
        obtain ⟨a1, a2, g3⟩ := g3
        have e' : c = z ∨ c = TI ∨ c = TO ∨ c = i1 ∨ c = i2 := by simpa using hc'
        rcases e' with rfl | rfl | rfl | rfl | rfl
        · exact ⟨_, g1⟩
        · exact ⟨_, g2⟩
        · exact ⟨_, g3⟩
        · obtain ⟨o, e, _⟩ := itSq_obj g4; exact ⟨o, e⟩
        · obtain ⟨o, e, _⟩ := itSq_obj g5; exact ⟨o, e⟩
      exact absurd (Heap.lt_size ho) (Nat.not_lt.mpr (by rw [q]; exact hT0))
    rw [upd_ne hne]
    exact (hf c hc').1
  done := by
    intro X hP hw hK hc i pins s σ H E J hf st hg
    subst hP hw hK
    obtain ⟨xs, ys, hq, hq', hx⟩ := hg
    obtain ⟨its, rv, p, hz⟩ := Inv.sq J hq
    obtain ⟨its', rv', p', hz'⟩ := Inv.sq J hq'
    have hil : i = min its.toArray.size its'.toArray.size := by rw [List.size_toArray, List.size_toArray, ← rv.length, ← rv'.length, hx]
    have W := WalksT.zipD2 S (sqDraws (prog := X.prog) (w := X.w) (A := X.A.in1) (J.ok.hd hc) b i1 a h1 its.toArray) (sqDraws (prog := X.prog) (w := X.w) (A := X.A.in1) (J.ok.hd hc) b' i2 a' h2 its'.toArray)
    obtain ⟨g1, g2, g3, g4, g5⟩ := st
    subst hil
    refine W.done s _ _ ⟨g1, g2, g3, ⟨g4, p⟩, g5, p'⟩ fun h' tk kp => ⟨rfl, J.turnedL (ch := [z, TO, i1, i2]) kp fun c hc' => hf c ?_⟩
    have e' : c = z ∨ c = TO ∨ c = i1 ∨ c = i2 := by simpa using hc'
    rcases e' with rfl | rfl | rfl | rfl <;> simp
  self := fun A i s Q E st h => wpAny_pyIter_zip st.1 h

/-! ### how they begin -/
set_option maxHeartbeats 1000000 in
theorem enum_new1 {v : Value} {o : Obj} {G : Heap → Prop} (B : Begins v o G) :
    Meets (Builtin.«enumerate.__new__» ⟨[.type "enumerate", v], []⟩) (fun _ R s => G s.heap ∧
      R (.ok (.ret (.ref (s.heap.push o).objs.size))) { s with heap := (s.heap.push o).push { cls := .type "enumerate", data := .fields #[.none, .bool false, .ref s.heap.objs.size, rawInt 0, .none, .none] } }) :=
  .of_wp fun prog w A R s h => by
    obtain ⟨hp, g, d, tk, os⟩ := s
    obtain ⟨h1, h⟩ := h
    have hsub := sub_enumerate
    have q1 : ∀ {A' : Around} {E : Value → Shared → Prop} {Q : Value → Shared → Prop}, Q (.ref hp.objs.size) ⟨hp.push o, g, d, tk, os⟩ → wpAny (model prog w) A' (pyIter v) Q E ⟨hp, g, d, tk, os⟩ := fun q => B.iter prog w _ _ ⟨hp, g, d, tk, os⟩ _ h1 q
    wp_walk using q1
    refine wpAny_stack_any fun st => wpAny_pure ?_
    split
    · rename_i c _ _ _ _ _
      cases (c == Value.type "enumerate") <;> (wp_walk using q1; exact ⟨_, rfl, h⟩)
    · wp_walk using q1
      exact ⟨_, rfl, h⟩
theorem enum_begins1 {prog : Program} {w : World} {A : Around} {E : Value → Shared → Prop} {s : Shared} {v : Value} {o : Obj} {G : Heap → Prop} {Q : Value → Shared → Prop} (B : Begins v o G) (h1 : G s.heap)
    (h : ∀ h', IsEnum h' (s.heap.objs.size + 1) s.heap.objs.size 0 .none → h'.get? s.heap.objs.size = some o → (∀ b o, s.heap.get? b = some o → h'.get? b = some o) → Q (.ref (s.heap.objs.size + 1)) { s with heap := h' }) :
    wpAny (model prog w) A (call (.type "enumerate") [v]) Q E s := by
  refine callType_new F.called_enumerate (by decide) (F.typeCall_enumerate_1 _) (F.newCall_enumerate_1 _) (fun obj => F.args_object_init_2 obj _) F.entry_enumerate_new (enum_new1 B) ⟨h1, ?_⟩
  have z0 : (s.heap.push o).objs.size = s.heap.objs.size + 1 := Heap.size_push ..
  show _ ∧ _
  rw [z0]
  have he : IsEnum ((s.heap.push o).push { cls := .type "enumerate", data := .fields #[.none, .bool false, .ref s.heap.objs.size, rawInt 0, .none, .none] }) (s.heap.objs.size + 1) s.heap.objs.size 0 .none := by
    have q := Heap.get?_push_size (s.heap.push o) (o := { cls := .type "enumerate", data := .fields #[.none, .bool false, .ref s.heap.objs.size, rawInt 0, .none, .none] }) rfl
    rw [z0] at q; exact q
  exact ⟨⟨_, he, rfl⟩, h _ he (Heap.get?_push_of_some _ (Heap.get?_push_size _ B.free)) fun b o x => Heap.get?_push_of_some _ (Heap.get?_push_of_some _ x)⟩
def iEnS (K : PySem.W.Frag) (ta : TA) : TI := fun σ H R => ta σ H fun vs H1 => ∃ a xs b, vs = [.ref a] ∧ SqK K H1 b a xs ∧ R (IteS K b 0 a) H1
def iZpS (K : PySem.W.Frag) (ta : TA) : TI := fun σ H R => ta σ H fun vs H1 => ∃ a a' xs ys b b', vs = [.ref a, .ref a'] ∧ SqK K H1 b a xs ∧ SqK K H1 b' a' ys ∧ R (ItzS K b b' a a') H1
section
variable {X : Cx} {e e2 : Expr} {ta : TA} {p pos tpos : Pos} {elts : List Expr} {kk : Nat}
theorem pi_enS (hg : Gl X "enumerate") (hm : X.mg "enumerate" = none) (ha : PA X [e] ta) (hs : starEach [e] X.env = [(false, eval e X.env)] := by rfl) :
    PI X (.Tuple elts kk tpos) (.Call (.Name "enumerate" p) [e] [] pos) (iEnS X.K ta) := by
  refine ⟨fun pins s σ H R J h => Call_ (ld_blt J hg hm boot_enumerate (PyProof.Rows.callWith_type1 (thn (ha.run pos pins s σ H _ J h) fun us s1 ⟨vs, H1, I1, r1, q1⟩ => ?_) hs rfl))⟩
  obtain ⟨a, xs, b, rfl, hq, q⟩ := q1
  cases r1 with
  | cons r rr =>
    cases rr
    cases r
    obtain ⟨its, rv, p', hz⟩ := Inv.sq I1 hq
    have la := isSq_lt p'
    refine enum_begins1 (sqBegins b a its.toArray) p' fun h' he hit hk => wpAny_pyIter_enum he ?_
    have I2 : L2.Inv X pins σ H1 { s1 with heap := h' } := I1.kept (t' := s1.toks) hk
    refine ⟨s1.heap.objs.size + 1, [s1.heap.objs.size + 1, s1.heap.objs.size], _, _, H1, rfl, I2, turn_enumS b 0 a (s1.heap.objs.size + 1) s1.heap.objs.size (Nat.ne_of_lt la) (Nat.ne_of_lt (Nat.lt_succ_of_lt la)) (Nat.succ_ne_self _), ⟨⟨.none, he⟩, itSq_new hit⟩, fun c hc => ?_, q⟩
    have hle : s1.heap.objs.size ≤ c := by
      rcases (by simpa using hc : c = s1.heap.objs.size + 1 ∨ c = s1.heap.objs.size) with z | z
      · rw [z]; exact Nat.le_add_right _ _
      · rw [z]; exact Nat.le_refl _
    exact I1.fpOk hle (I1.hok.fresh hle)
theorem pi_zpS (hg : Gl X "zip") (hm : X.mg "zip" = none) (ha : PA X [e, e2] ta)
    (hs : starEach [e, e2] X.env = (false, eval e X.env) :: starEach [e2] X.env := by rfl) (hpl : (backTo pos (starEach [e2] X.env)).any (·.1) = false := by rfl) :
    PI X (.Tuple elts kk tpos) (.Call (.Name "zip" p) [e, e2] [] pos) (iZpS X.K ta) := by
  refine ⟨fun pins s σ H R J h => Call_ (ld_blt J hg hm PyProof.Rows.boot_zip (PyProof.Rows.callWith_type1 (thn (ha.run pos pins s σ H _ J h) fun us s1 ⟨vs, H1, I1, r1, q1⟩ => ?_) hs hpl))⟩
  obtain ⟨a, a', xs, ys, b, b', rfl, hq, hq', q⟩ := q1
  cases r1 with
  | cons r rr =>
    cases rr with
    | cons r' rr =>
      cases rr
      cases r
      cases r'
      obtain ⟨its, rv, p1, _⟩ := Inv.sq I1 hq
      obtain ⟨its2, rv2, p2, _⟩ := Inv.sq I1 hq'
      have la := isSq_lt p1
      have lb := isSq_lt p2
      refine zip_begins2 (sqBegins b a its.toArray) (sqBegins b' a' its2.toArray) p1 p2 fun h' hz hTI hTO h1 h2 hsz hk => wpAny_pyIter_zip hz ?_
      have I2 : L2.Inv X pins σ H1 { s1 with heap := h' } := I1.kept (t' := s1.toks) hk
      refine ⟨s1.heap.objs.size + 4, [s1.heap.objs.size + 4, s1.heap.objs.size + 2, s1.heap.objs.size + 3, s1.heap.objs.size, s1.heap.objs.size + 1], _, _, H1, rfl, I2,
        turn_zipS b b' a a' _ _ _ _ _ (zip_sep2 (fp1 := [a]) (fp2 := [a']) (fun c hc => by simp at hc; rw [hc]; exact la) (fun c hc => by simp at hc; rw [hc]; exact lb)) (Nat.ne_of_lt la) (Nat.ne_of_lt (Nat.lt_succ_of_lt lb)), ⟨hz, hTI, ⟨_, _, hTO⟩, itSq_new h1, itSq_new h2⟩, fun c hc => ?_, q⟩
      have hle : s1.heap.objs.size ≤ c := by
        rcases (by simpa using hc : c = s1.heap.objs.size + 4 ∨ c = s1.heap.objs.size + 2 ∨ c = s1.heap.objs.size + 3 ∨ c = s1.heap.objs.size ∨ c = s1.heap.objs.size + 1) with z | z | z | z | z
        · rw [z]; exact Nat.le_add_right _ _
        · rw [z]; exact Nat.le_add_right _ _
        · rw [z]; exact Nat.le_add_right _ _
        · rw [z]; exact Nat.le_refl _
        · rw [z]; exact Nat.le_add_right _ _
      exact I1.fpOk hle (I1.hok.fresh hle)
end

/-! ### by data -/
/-- arguments that are lists or tuples: data, or new lists -/
def sqO : O → Option (List D)
  | .d (.list ds) => some ds
  | .d (.tuple ds) => some ds
  | .tmp (.lst ds) => some ds
  | _ => none
def pairD (k : Int) : Nat → List D → List D
  | _, [] => []
  | i, d :: ds => .tuple [.int (k + (i : Nat)), d] :: pairD k (i + 1) ds
theorem pairD_len (k : Int) : ∀ (i : Nat) (ds : List D), (pairD k i ds).length = ds.length
  | _, [] => rfl
  | i, d :: ds => by simp [pairD, pairD_len k (i + 1) ds]
theorem pairD_get (k : Int) : ∀ (i : Nat) (ds : List D) (j : Nat) (d : D), ds[j]? = some d → (pairD k i ds)[j]? = some (.tuple [.int (k + ((i + j : Nat) : Int)), d])
  | i, d :: ds, 0, e, h => by simp at h; subst h; rfl
  | i, d :: ds, j + 1, e, h => by
    have := pairD_get k (i + 1) ds j e (by simpa using h)
    simp only [pairD, List.getElem?_cons_succ, this]
    have e1 : i + 1 + j = i + (j + 1) := by omega
    rw [e1]
  | i, [], j, e, h => by simp at h
def zipD : List D → List D → List D
  | x :: xs, y :: ys => .tuple [x, y] :: zipD xs ys
  | _, _ => []
theorem zipD_len : ∀ (xs ys : List D), (zipD xs ys).length = min xs.length ys.length
  | [], ys => by simp [zipD]
  | _ :: _, [] => by simp [zipD]
  | x :: xs, y :: ys => by simp [zipD, zipD_len xs ys]
theorem zipD_get : ∀ (xs ys : List D) (j : Nat) (x y : D), xs[j]? = some x → ys[j]? = some y → (zipD xs ys)[j]? = some (.tuple [x, y])
  | x :: xs, y :: ys, 0, _, _, h, h' => by simp at h h'; subst h h'; rfl
  | x :: xs, y :: ys, j + 1, _, _, h, h' => by simpa [zipD] using zipD_get xs ys j _ _ (by simpa using h) (by simpa using h')
  | [], _, j, _, _, h, _ => by simp at h
  | _ :: _, [], j, _, _, _, h => by simp at h
def dItE (g : DA) : DI := fun ρ P PX => g ρ (fun os ρ1 => match os with
  | [o] => getK (sqO o) fun ds => P (pairD 0 0 ds) ρ1
  | _ => False) PX
def dItZ (g : DA) : DI := fun ρ P PX => g ρ (fun os ρ1 => match os with
  | [o, o'] => getK (sqO o) fun xs => getK (sqO o') fun ys => P (zipD xs ys) ρ1
  | _ => False) PX
section
variable {p : Pm} {F F' : Lab} {I I' H0 H H' : Hp} {σ : L2.St} {ρ : Rho} {v : V} {o : O} {ds : List D}
/-- such an argument stands while nobody touches it -/
theorem sq_src (R : Rel p F I H σ ρ) (r : ResOk p F I H0 H σ v o) (h : sqO o = some ds) : ∃ (b : Bool) (a : Addr) (vs : List V), v = .ref a ∧ SqK p.K H b a vs ∧ DdAll p I vs ds ∧ ((∃ x, H a = some (.lst vs) ∨ H a = some (.frz x (.tup vs)))) ∧ ∀ F' I' H', Step F I H F' I' H' → Same I' H' → SqK p.K H' b a vs := by
  unfold sqO at h
  split at h
  · cases h
    cases r with
    | lst e q =>
      rename_i a vs
      exact ⟨false, a, vs, rfl, SqL.of (R.sub _ _ e), q, ⟨default, .inl (R.sub _ _ e)⟩, fun F' I' H' s s2 => SqL.of (s2 _ _ (s.inc _ _ e))⟩
  · cases h
    cases r with
    | tup e z q =>
      rename_i a ob vs
      exact ⟨true, a, vs, rfl, sqF (R.sub _ _ e), q, ⟨ob, .inr (R.sub _ _ e)⟩, fun F' I' H' s s2 => sqF (s2 _ _ (s.inc _ _ e))⟩
  · cases h
    obtain ⟨a, rfl, fp, ⟨rfl, vs, e, q⟩, hf⟩ := r
    exact ⟨false, a, vs, rfl, SqL.of e, q, ⟨default, .inl e⟩, fun F' I' H' s s2 => SqL.of (s.keep _ _ e (hf a (by simp)).1)⟩
  · cases h
theorem big_src {a : Addr} {vs : List V} (big : Big H) (h : ∃ x, H a = some (.lst vs) ∨ H a = some (.frz x (.tup vs))) : vs.length ≤ sizeLine := by
  obtain ⟨x, h | h⟩ := h
  · exact big a vs (.inl h)
  · exact big a vs (.inr ⟨x, h⟩)
theorem item_pair {I H : Hp} {T : Addr} {x y : V} {d e : D} (h1 : Dd p I x d) (h2 : Dd p I y e) : ItemT p I (upd H T (.tup [x, y])) (.ref T) (.tuple [d, e]) := ⟨T, [x, y], [d, e], rfl, rfl, .inl (.inl upd_same), .cons h1 (.cons h2 .nil)⟩
theorem itw_enum {b : Bool} {a : Addr} {vs : List V} (h : ∀ F' I' H', Step F I H F' I' H' → Same I' H' → SqK p.K H' b a vs) (r : DdAll p I vs ds) (z : vs.length ≤ sizeLine) : ItW p false (IteS p.K b 0 a) F I H (pairD 0 0 ds) where
  ex := by
    refine ⟨fun H => SqK p.K H b a vs, YPair (fun i => some (.int (0 + ((i : Nat) : Int)))) (fun i => vs[i]?), ?_, h, fun i H1 x H2 hi hy F1 I1 s1 s2 hl => ?_⟩
    · rw [pairD_len, ← r.length]
      exact ⟨fun i H hi hg => ⟨vs, _, hg, List.getElem?_eq_getElem hi⟩, fun H hg => ⟨vs, hg, rfl⟩, fun i H x H' hi hg ⟨T, y, e1, e2, e3, e4⟩ => ⟨T, _, y, e1, e2, e3, rfl, e4 vs hg⟩⟩
    · obtain ⟨T, x1, y, rfl, hT, rfl, e1, e2⟩ := hy
      cases e1
      obtain ⟨d, h1, h2⟩ := r.getV e2
      refine ⟨I1, _, pairD_get 0 0 ds i d h1, same_upd hT, fun _ _ e => e, fun c y e => same_upd hT _ _ (s2 _ _ e), fun _ e => .inl e, ?_⟩
      have e0 : (0 : Int) + ((0 + i : Nat) : Int) = 0 + ((i : Nat) : Int) := by simp
      rw [e0]
      exact item_pair (.int _) (Dd.mono s1.inc h2)
  big := by rw [pairD_len, ← r.length]; exact z
theorem itw_zip {b b' : Bool} {a a' : Addr} {vs ws : List V} {es : List D} (h : ∀ F' I' H', Step F I H F' I' H' → Same I' H' → SqK p.K H' b a vs) (h' : ∀ F' I' H', Step F I H F' I' H' → Same I' H' → SqK p.K H' b' a' ws) (r : DdAll p I vs ds) (r' : DdAll p I ws es) (z : vs.length ≤ sizeLine) : ItW p false (ItzS p.K b b' a a') F I H (zipD ds es) where
  ex := by
    refine ⟨fun H => SqK p.K H b a vs ∧ SqK p.K H b' a' ws, YPair (fun i => vs[i]?) (fun i => ws[i]?), ?_, fun F' I' H' s s2 => ⟨h _ _ _ s s2, h' _ _ _ s s2⟩, fun i H1 x H2 hi hy F1 I1 s1 s2 hl => ?_⟩
    · rw [zipD_len, ← r.length, ← r'.length]
      exact ⟨fun i H hi hg => ⟨vs, ws, _, _, hg.1, hg.2, List.getElem?_eq_getElem (by omega), List.getElem?_eq_getElem (by omega)⟩, fun H hg => ⟨vs, ws, hg.1, hg.2, rfl⟩, fun i H x H' hi hg ⟨T, x1, y, e1, e2, e3, e4, e5⟩ => ⟨T, x1, y, e1, e2, e3, e4 vs hg.1, e5 ws hg.2⟩⟩
    · obtain ⟨T, x1, y, rfl, hT, rfl, e1, e2⟩ := hy
      obtain ⟨d, h1, h2⟩ := r.getV e1
      obtain ⟨e, h3, h4⟩ := r'.getV e2
      exact ⟨I1, _, zipD_get ds es i d e h1 h3, same_upd hT, fun _ _ e => e, fun c y e => same_upd hT _ _ (s2 _ _ e), fun _ e => .inl e, item_pair (Dd.mono s1.inc h2) (Dd.mono s1.inc h4)⟩
  big := by rw [zipD_len, ← r.length]; omega
end
section
variable {X : Cx} {G : V → Nat → Option Addr → Prop} {W : WX} {e e2 : Expr} {g : DA} {p pos tpos : Pos} {elts : List Expr} {kk : Nat}
theorem i_enum (hg : Gl X "enumerate") (hm : X.mg "enumerate" = none) (ha : PAd X G W [e] g) (hs : starEach [e] X.env = [(false, eval e X.env)] := by rfl) : PId X G W false (.Tuple elts kk tpos) (.Call (.Name "enumerate" p) [e] [] pos) (dItE g) := PI.weak (pi_enS hg hm ha hs) fun σ H R q => by
  obtain ⟨F, I, ρ, P, PX, RR, f1, k, x⟩ := q
  refine ⟨F, I, ρ, _, PX, RR, f1, fun os ρ1 vs F1 I1 H1 f2 s1 R1 r1 => ?_, x⟩
  split at f2
  · obtain ⟨ds, e, f2⟩ := getK_of f2
    cases r1 with
    | cons r rr =>
      cases rr
      obtain ⟨b, a, ws, rfl, hq, hd, hb, hst⟩ := sq_src R1 r e
      exact ⟨a, ws, b, rfl, hq, fun big => k _ ρ1 F1 I1 H1 _ f2 s1 R1 (itw_enum hst hd (big_src big hb))⟩
  · exact f2.elim
theorem i_zip (hg : Gl X "zip") (hm : X.mg "zip" = none) (ha : PAd X G W [e, e2] g)
    (hs : starEach [e, e2] X.env = (false, eval e X.env) :: starEach [e2] X.env := by rfl) (hpl : (backTo pos (starEach [e2] X.env)).any (·.1) = false := by rfl) : PId X G W false (.Tuple elts kk tpos) (.Call (.Name "zip" p) [e, e2] [] pos) (dItZ g) := PI.weak (pi_zpS hg hm ha hs hpl) fun σ H R q => by
  obtain ⟨F, I, ρ, P, PX, RR, f1, k, x⟩ := q
  refine ⟨F, I, ρ, _, PX, RR, f1, fun os ρ1 vs F1 I1 H1 f2 s1 R1 r1 => ?_, x⟩
  split at f2
  · obtain ⟨ds, e, f2⟩ := getK_of f2
    obtain ⟨es, e', f2⟩ := getK_of f2
    cases r1 with
    | cons r rr =>
      cases rr with
      | cons r' rr =>
        cases rr
        obtain ⟨b, a, ws, rfl, hq, hd, hb, hst⟩ := sq_src R1 r e
        obtain ⟨b', a', ws', rfl, hq', hd', hb', hst'⟩ := sq_src R1 r' e'
        exact ⟨a, a', ws, ws', b, b', rfl, hq, hq', fun big => k _ ρ1 F1 I1 H1 _ f2 s1 R1 (itw_zip hst hst' hd hd' (big_src big hb))⟩
  · exact f2.elim
end
end Dt

namespace Dt
open PySem PySem.Spec PyProof.Rows L2

/-! ### a, b = x, y -/
def tParN (is : List Nat) (ta : TA) : TS := fun D σ H => ta σ H fun vs H1 => ∃ ws : List V, vs = ws ∧ ws.length = is.length ∧ D.nx ((is.zip ws).foldl (fun s p => s.set p.1 (some p.2)) σ) H1
section
variable {X : Cx} {i j l : Nat} {x y z : Str} {a b c : Expr} {ta : TA} {px py pz pt pos : Pos} {kt k2 pt2}
theorem ps_par2 (hc : X.calm = true) (hN : X.N.Nodup) (hi : X.N[i]? = some x) (hj : X.N[j]? = some y) (hij : i ≠ j)
    (hx : X.env.scope.names.lookup x = some .local) (hy : X.env.scope.names.lookup y = some .local) (ha : PA X [a, b] ta)
    (hw : swappedStores [.Tuple [.Name x px, .Name y py] kt pt] (.Tuple [a, b] k2 pt2) X.env = pure (some [x, y]))
    (hs : swapsWithSole [.Tuple [.Name x px, .Name y py] kt pt] (.Tuple [a, b] k2 pt2) pos.line X.env = pure false := by rfl) :
    PS X (.Assign [.Tuple [.Name x px, .Name y py] kt pt] (.Tuple [a, b] k2 pt2) pos) (tParN [i, j] ta) := by
  refine ⟨fun pins s σ H D J h => ?_⟩
  rw [exec_Assign_arm]
  refine wpAny_bind (wpAny_standAt ?_)
  rw [hs]
  refine wpAny_bind (wpAny_pure ?_)
  rw [if_neg (by decide)]
  refine wpAny_bind (Tuple_ (thn (ha.run _ pins s σ H _ J h) fun us s1 ⟨vs, H1, J1, r1, q1⟩ => ?_))
  obtain ⟨ws, rfl, hl, q1⟩ := q1
  obtain ⟨v1, v2, rfl⟩ : ∃ v1 v2, vs = [v1, v2] := by
    match vs, hl with
    | [v1, v2], _ => exact ⟨_, _, rfl⟩
  obtain ⟨u1, u2, rfl, r1', r2'⟩ : ∃ u1 u2, us = [u1, u2] ∧ RelV v1 u1 ∧ RelV v2 u2 := by
    cases r1 with
    | cons p q => cases q with
      | cons p' q' => cases q'; exact ⟨_, _, rfl, p, p'⟩
  refine wpAny_newObj_type ?_ (by show 2 ≤ sizeLine; decide)
  have J2 : L2.Inv X pins σ H1 { s1 with heap := s1.heap.push { cls := .type "tuple", data := .seq [u1, u2].toArray } } := J1.kept (t' := s1.toks) fun b o e => Heap.get?_push_of_some _ e
  rw [hw]
  refine wpAny_bind (wpAny_pure ?_)
  show wpAny (model X.prog X.w) X.A (do rule "assign.swapped-stores"; let items ← unpackItems (.ref s1.heap.objs.size) 2 none; assignInOrder [fun v => bindName X.env y v, fun v => bindName X.env x v] items.reverse; pure Flow.next) _ _ _
  refine wpAny_bind (wpAny_rule (wpAny_bind (unpackItems_tuple (items := #[u1, u2]) (J.ok.hd hc) (IsTup.new s1.heap _) fun h' hx' => ?_)))
  have J3 := J2.kept (h' := h') (t' := s1.toks) fun b o e => hx' b o (Nat.ne_of_lt (Heap.lt_size e)) e
  show wpAny _ _ (assignInOrder [fun v => bindName X.env y v, fun v => bindName X.env x v] [u2, u1] >>= fun _ => pure Flow.next) _ _ _
  refine wpAny_bind (assignInOrder_cons (wpAny_bindName (store_ok J3 hN hj (.inl hy) r2' (fun s2 J4 => ?_) (.inr hy))))
  refine assignInOrder_cons (wpAny_bindName (store_ok J4 hN hi (.inl hx) r1' (fun s3 J5 => assignInOrder_nil (wpAny_pure ?_)) (.inr hx)))
  rw [List.set_comm _ _ (Ne.symm hij)] at J5
  exact ⟨_, H1, J5, q1⟩
end
/-- data to slots -/
def setsD (ρ : Rho) : List Nat → List D → Rho
  | i :: is, d :: ds => setsD (ρ.set i (some (.d d))) is ds
  | _, _ => ρ
def dPar (is : List Nat) (g : DA) : DS := fun E ρ => g ρ (fun os ρ1 => onlyK os fun ds => ds.length = is.length ∧ E.nx (setsD ρ1 is ds)) E.ex
section
variable {X : Cx} {G : V → Nat → Option Addr → Prop} {W : WX} {i j l : Nat} {x y z : Str} {a b c : Expr} {g : DA} {px py pz pt pos : Pos} {kt k2 pt2}
theorem Rel.sets {p : Pm} {F : Lab} {I H : Hp} : ∀ {is : List Nat} {vs : List V} {ds : List D} {σ : L2.St} {ρ : Rho}, Rel p F I H σ ρ → DdAll p I vs ds → vs.length = is.length → Rel p F I H ((is.zip vs).foldl (fun s q => s.set q.1 (some q.2)) σ) (setsD ρ is ds)
  | [], _, _, _, _, R, _, _ => by simpa [setsD] using R
  | i :: is, [], _, _, _, R, _, h => by simp at h
  | i :: is, v :: vs, _, _, _, R, .cons r rs, h => by
    simp only [List.zip_cons_cons, List.foldl_cons, setsD]
    exact Rel.sets (R.setD (s := .d _) r) rs (by simpa using h)
theorem w_par {p : Pm} {is : List Nat} (D : Ends) (σ : L2.St) (H : Hp) (q : tS p W (dPar is g) D σ H) : tParN is (tA p W g) D σ H := by
  obtain ⟨F, I, ρ, E, R, f1, k⟩ := q
  refine ⟨F, I, ρ, _, E.ex, R, f1, fun os ρ1 vs F1 I1 H1 f2 s1 R1 r1 => ?_, k.xend⟩
  obtain ⟨ds, e, hl, f2⟩ := onlyK_of f2
  have r := onlyD_ok r1 e
  have hv : vs.length = is.length := by rw [r.length]; exact hl
  exact ⟨vs, rfl, hv, k.nx _ _ F1 I1 H1 f2 s1 (R1.sets r hv)⟩
theorem z_par2 (hc : X.calm = true) (hN : X.N.Nodup) (hi : X.N[i]? = some x) (hj : X.N[j]? = some y) (hij : i ≠ j)
    (hx : X.env.scope.names.lookup x = some .local) (hy : X.env.scope.names.lookup y = some .local) (ha : PAd X G W [a, b] g)
    (hw : swappedStores [.Tuple [.Name x px, .Name y py] kt pt] (.Tuple [a, b] k2 pt2) X.env = pure (some [x, y]))
    (hs : swapsWithSole [.Tuple [.Name x px, .Name y py] kt pt] (.Tuple [a, b] k2 pt2) pos.line X.env = pure false := by rfl) :
    PSd X G W (.Assign [.Tuple [.Name x px, .Name y py] kt pt] (.Tuple [a, b] k2 pt2) pos) (dPar [i, j] g) := PS.weak (ps_par2 hc hN hi hj hij hx hy ha hw hs) w_par
/-- a, b = e -/
def dAsgT (f : DE) (g : DG) : DS := fun E ρ => f ρ (fun o ρ1 => onlyd1 o fun d => g d ρ1 E.nx) E.ex
theorem z_asgT {tg e : Expr} {f : DE} {gg : DG} {vs : List Nat} (he : PEd X G W e f) (hg : PGd X G true vs tg gg) (hs : swapsWithSole [tg] e pos.line X.env = pure false := by rfl) (hw : swappedStores [tg] e X.env = pure none := by rfl)
    (h1 : (assignEach [tg] X.env).map (·.2) = [assign tg X.env] := by rfl) : PSd X G W (.Assign [tg] e pos) (dAsgT f gg) := PS.weak (ps_asg he hg hs hw h1) fun D σ H q => by
  obtain ⟨F, I, ρ, E, R, f1, k⟩ := q
  refine ⟨F, I, ρ, _, E.ex, R, f1, fun o ρ1 v F1 I1 H1 f2 s1 R1 r1 => ?_, k.xend⟩
  obtain ⟨d, rfl, f2⟩ := onlyd1_of f2
  exact ⟨F1, I1, ρ1, d, E.nx, R1, r1, f2, fun ρ' σ' h R' _ => k.nx ρ' σ' F1 I1 H1 h s1 R'⟩
/-! ### list(range(n)) -/
def dLRg (f : DE) : DE := fun ρ P PX => f ρ (fun o ρ1 => intK o fun n => (-(2 ^ 62) ≤ n ∧ n ≤ 16000000) ∧ P (.tmp (.lst ((List.range n.toNat).map fun i => PyData.int (i : Nat)))) ρ1) PX
theorem e_lrg {fa : DE} {q0 pos' : Pos} (hc : X.calm = true) (hg : Gl X "list") (hm : X.mg "list" = none) (hg2 : Gl X "range") (hm2 : X.mg "range" = none) (ha : PEd X G W a fa) (na : starEach [a] X.env = (false, eval a X.env) :: starEach [] X.env := by rfl)
    (nb : starEach [.Call (.Name "range" q0) [a] [] pos'] X.env = (false, eval (.Call (.Name "range" q0) [a] [] pos') X.env) :: starEach [] X.env := by rfl) :
    PEd X G W (.Call (.Name "list" px) [.Call (.Name "range" q0) [a] [] pos'] [] pos) (dLRg fa) := PE.weak (pe_listRg hc hg hm (prg_1 hg2 hm2 ha na) nb) fun σ H Q q => by
  obtain ⟨F, I, ρ, P, PX, R, f1, k, x⟩ := q
  refine ⟨F, I, ρ, _, PX, R, f1, fun o ρ1 v F1 I1 H1 f2 s1 R1 r1 => ?_, x⟩
  obtain ⟨n, rfl, hn, f3⟩ := intK_of f2
  cases r1
  refine ⟨n, rfl, ⟨by omega, by omega, by omega, by omega, by omega⟩, fun q0 hq => ?_⟩
  have e : rgV 0 n = ((List.range n.toNat).map fun i => ((i : Nat) : Int)).map V.int := by
    unfold rgV
    rw [List.map_map]
    simp
  have e2 : ((List.range n.toNat).map fun i => PyData.int (i : Nat)) = ((List.range n.toNat).map fun i => ((i : Nat) : Int)).map PyData.int := by rw [List.map_map]; rfl
  rw [e]
  rw [e2] at f3
  exact Kont.lst (P := fun o => P o ρ1) (fun o v' I' H' h s' R' r' => k o ρ1 v' F1 I' H' h (s1.trans s') R' (r'.older fun b e => s1.old e)) R1 f3 (DdAll.ints _) hq
/-! ### isinstance(x, (T, U)) -/
theorem isT_any {K : PySem.W.Frag} {T U : String} {d : D} (hT : okT T) (hU : okT U) (n : noInst d) : PySem.W.kitAny K (.type (tyName d)) [.type T, .type U] = some (isT T d || isT U d) := by
  have h1 := isT_of (p := ⟨K, fun _ => none, noG⟩) hT n
  have h2 := isT_of (p := ⟨K, fun _ => none, noG⟩) hU n
  unfold PySem.W.kitAny
  rw [h1]
  cases isT T d with
  | true => rfl
  | false =>
    show PySem.W.kitAny K _ [.type U] = _
    unfold PySem.W.kitAny
    rw [h2]
    cases isT U d <;> rfl
theorem e_isi2 {T U : String} {x y : Str} {fa : DE} {tp up pos' : Pos} {k0 : Nat} (hT : okT T) (hU : okT U) (hg : Gl X "isinstance") (hm : X.mg "isinstance" = none) (hg2 : Gl X x) (hm2 : X.mg x = none) (hv2 : bootBuiltins x = some (.type T)) (hg3 : Gl X y) (hm3 : X.mg y = none) (hv3 : bootBuiltins y = some (.type U)) (ha : PEd X G W a fa)
    (hn2 : x ≠ "__name__" := by decide) (hd2 : (x == ("__debug__" : Str)) = false := by decide) (hn3 : y ≠ "__name__" := by decide) (hd3 : (y == ("__debug__" : Str)) = false := by decide)
    (h0 : starEach [.Name y up] X.env = (false, eval (.Name y up) X.env) :: starEach [] X.env := by rfl) (h1 : starEach [.Name x tp, .Name y up] X.env = (false, eval (.Name x tp) X.env) :: starEach [.Name y up] X.env := by rfl)
    (h3 : starEach [.Tuple [.Name x tp, .Name y up] k0 pt] X.env = (false, eval (.Tuple [.Name x tp, .Name y up] k0 pt) X.env) :: starEach [] X.env := by rfl)
    (h2 : starEach [a, .Tuple [.Name x tp, .Name y up] k0 pt] X.env = (false, eval a X.env) :: starEach [.Tuple [.Name x tp, .Name y up] k0 pt] X.env := by rfl)
    (hpl : (backTo pos (starEach [.Tuple [.Name x tp, .Name y up] k0 pt] X.env)).any (·.1) = false := by rfl) : PEd X G W (.Call (.Name "isinstance" pos') [a, .Tuple [.Name x tp, .Name y up] k0 pt] [] pos) (dUn (isi2D T U) fa) := by
  refine PE.weak (pe_callB call_isiT hg hm (by decide +kernel) (pa_cons ha (pa_cons (pe_tup (pa_cons (pe_bltn (v := .ty T) hg2 hm2 hv2 rfl hn2 hd2) (pa_cons (pe_bltn (v := .ty U) hg3 hm3 hv3 rfl hn3 hd3) pa_nil h0) h1)) pa_nil h3) h2) (by decide) (by decide) h2 hpl) fun σ H Q q => ?_
  obtain ⟨F, I, ρ, P, PX, R, f1, k, x0⟩ := q
  refine ⟨F, I, ρ, _, PX, R, f1, fun o ρ1 v F1 I1 H1 f2 s1 R1 r1 => ?_, x0⟩
  obtain ⟨d, e, nd, f3⟩ := vw1_of f2
  have hd := vw_ok R1 r1 e
  refine ⟨by show 2 ≤ sizeLine; decide, fun tq hq => ?_⟩
  obtain ⟨R2, s2⟩ := R1.newT (x := .tup [V.ty T, V.ty U]) hq
  have hd2 := vw_ok R2 (r1.stay s2) e
  refine ⟨v, tq, [.ty T, .ty U], _, [.type T, .type U], _, rfl, upd_same, .cons (.ty T) (.cons (.ty U) .nil), tyX_of R2.sub hd2 nd, isT_any hT hU nd, ?_⟩
  exact k _ _ _ _ _ _ f3 (s1.trans s2) R2 (Dd.bl _)
end
/-! ### remove, index -/
def remF : MF := fun ds es k => match es with
  | [.int n] => intsK ds fun ns => n ∈ ns ∧ k ((ns.erase n).map PyData.int) .none
  | _ => False
theorem erase_first : ∀ {ns : List Int} {k : Int}, k ∈ ns → ∃ j, ns[j]? = some k ∧ (∀ m : Nat, m < j → ns[m]? ≠ some k) ∧ ns.eraseIdx j = ns.erase k
  | n :: ns, k, h => by
    by_cases e : n = k
    · subst e
      exact ⟨0, rfl, fun m hm => absurd hm (Nat.not_lt_zero m), by simp⟩
    · obtain ⟨j, h1, h2, h3⟩ := erase_first (ns := ns) (k := k) (by
        rcases List.mem_cons.mp h with h | h
        · exact absurd h.symm e
        · exact h)
      refine ⟨j + 1, by simpa using h1, fun m hm => ?_, ?_⟩
      · cases m with
        | zero => simpa using e
        | succ m => simpa using h2 m (by omega)
      · rw [List.eraseIdx_cons_succ, h3, List.erase_cons_tail (by simpa using e)]
theorem s_rem {p : Pm} : MuS p rRemI remF := by
  intro I H a vs ds xs es k Q s h r rx hf q
  unfold remF at hf
  split at hf
  · obtain ⟨v, rfl, rv⟩ := dargs1 rx
    cases rv
    obtain ⟨ns, rfl, hm, hf⟩ := intsK_of hf
    obtain ⟨j, h1, h2, h3⟩ := erase_first hm
    rw [r.ofInts] at h
    refine ⟨a, ns, _, j, rfl, rfl, h, h1, h2, ?_⟩
    rw [h3]
    exact q _ _ _ _ (DdAll.ints _) .non hf
  · exact hf.elim
end Dt

namespace Dt
open PySem PySem.Spec PyProof.Rows L2

theorem oexB_ok {K : PySem.W.Frag} {C : Addr} (h : oexB K C = true) : OexC K C := by
  unfold oexB at h
  simp only [Bool.and_eq_true, decide_eq_true_eq] at h
  obtain ⟨⟨⟨⟨q, h1⟩, h2⟩, h3⟩, h4⟩ := h
  refine ⟨?_, h1, h2, h3, h4⟩
  split at q
  · rename_i dd cd sl ho
    split at q
    · rename_i C' bm k0 k1 k2 k3 n k5 hm hs
      simp only [Bool.and_eq_true, beq_iff_eq, Bool.not_eq_true'] at q
      obtain ⟨⟨⟨⟨rfl, rfl⟩, hdel⟩, hdc⟩, ht⟩ := q
      obtain ⟨nm, bs, mro, ns, qn, hd, sn, sub, ab, col, del⟩ := cd
      dsimp only at hm hdel hdc
      subst hm hdel hdc
      obtain ⟨l⟩ := sl
      simp only at hs
      subst hs
      exact ⟨nm, qn, ns, bs, bm, sn, sub, ab, col, dd, k0, k1, k2, k3, k5, ho, ht⟩
    · cases q
  · cases q
/-- what an own __init__ with the fields fs promises -/
def spInit (K : PySem.W.Frag) (fs : List Str) : Sp := fun vs H Q _ => ∃ (a C : Addr) (ys : List V), vs = .ref a :: ys ∧ ys.length = fs.length ∧ H a = some (exo a C none) ∧ OexC K C ∧ (∀ f ∈ fs, PySem.W.findIn K (.ref C) f = some none) ∧
  ∀ dx H', H dx = none → dx ≠ a → H' a = some (exo a C (some dx)) → H' dx = some (exd dx (fs.zip ys).reverse) → (∀ b, b ≠ a → b ≠ dx → H' b = H b) → Q .non H'
section
variable {P : Program} {w : World} {K : PySem.W.Frag} {mg : Str → Option Value} {base : Heap} {f : Addr} {fd : FuncData} {st : Stmt} {qual : Str}
theorem init1 {x0 x1 f1 : Str} (F : Fun K "__init__" qual st f fd) (S : FnScope [x0, x1] [x0, x1] (defScope st))
    (hd : ∀ (cdv : Value) (A : Around) (outer : List Env) (s : Shared) (H : Hp) (E : XK), PSs (cxOf (L2.CX P w) P w K mg base [x0, x1] qual (defScope st) f cdv A outer s H E) (defBody st) (tOst K f1 (tVar 0) (tVar 1))) :
    FnOk P w K mg base (L2.CX P w) 1 f fd [x0, x1] (spInit K [f1]) := by
  refine F.okX S (fun vs H Q E h => ?_) (fun cdv A outer s H vs Q E hr h => ⟨_, hd cdv A outer s H E, ?_⟩)
  · obtain ⟨a, C, ys, rfl, hl, _⟩ := h
    simpa using hl
  · obtain ⟨a, C, ys, rfl, hl, ha, oc, hf, q⟩ := h
    obtain ⟨y, rfl⟩ : ∃ y, ys = [y] := by
      match ys, hl with
      | [y], _ => exact ⟨y, rfl⟩
    refine ⟨y, rfl, .ref a, rfl, a, C, rfl, oc, hf _ (by simp), .inl ⟨ha, fun dx hn hne => q dx _ hn hne upd_same ?_ fun b h1 h2 => by rw [upd_ne h1, upd_ne h2]⟩⟩
    rw [upd_ne hne]; exact upd_same
theorem init3 {x0 x1 x2 x3 f1 f2 f3 : Str} (F : Fun K "__init__" qual st f fd) (S : FnScope [x0, x1, x2, x3] [x0, x1, x2, x3] (defScope st))
    (hd : ∀ (cdv : Value) (A : Around) (outer : List Env) (s : Shared) (H : Hp) (E : XK), PSs (cxOf (L2.CX P w) P w K mg base [x0, x1, x2, x3] qual (defScope st) f cdv A outer s H E) (defBody st) (tSeq (tOst K f1 (tVar 0) (tVar 1)) (tSeq (tOst K f2 (tVar 0) (tVar 2)) (tOst K f3 (tVar 0) (tVar 3))))) :
    FnOk P w K mg base (L2.CX P w) 1 f fd [x0, x1, x2, x3] (spInit K [f1, f2, f3]) := by
  refine F.okX S (fun vs H Q E h => ?_) (fun cdv A outer s H vs Q E hr h => ⟨_, hd cdv A outer s H E, ?_⟩)
  · obtain ⟨a, C, ys, rfl, hl, _⟩ := h
    simpa using hl
  · obtain ⟨a, C, ys, rfl, hl, ha, oc, hf, q⟩ := h
    obtain ⟨y1, y2, y3, rfl⟩ : ∃ y1 y2 y3, ys = [y1, y2, y3] := by
      match ys, hl with
      | [y1, y2, y3], _ => exact ⟨y1, y2, y3, rfl⟩
    refine ⟨y1, rfl, .ref a, rfl, a, C, rfl, oc, hf _ (by simp), .inl ⟨ha, fun dx hn hne => ?_⟩⟩
    have g1 : (upd (upd H dx (exd dx [(f1, y1)])) a (exo a C (some dx))) a = some (exo a C (some dx)) := upd_same
    have g2 : (upd (upd H dx (exd dx [(f1, y1)])) a (exo a C (some dx))) dx = some (exd dx [(f1, y1)]) := by rw [upd_ne hne]; exact upd_same
    refine ⟨y2, rfl, .ref a, rfl, a, C, rfl, oc, hf _ (by simp), .inr ⟨dx, _, g1, g2, by simp, ?_⟩⟩
    refine ⟨y3, rfl, .ref a, rfl, a, C, rfl, oc, hf _ (by simp), .inr ⟨dx, _, by rw [upd_ne (Ne.symm hne)]; exact g1, upd_same, by simp, ?_⟩⟩
    refine q dx _ hn hne (by rw [upd_ne (Ne.symm hne), upd_ne (Ne.symm hne)]; exact g1) upd_same fun b h1 h2 => by rw [upd_ne h2, upd_ne h2, upd_ne h1, upd_ne h2]
end
/-- class n has its own __init__ with these fields -/
structure IniF (P : Program) (w : World) (K : PySem.W.Frag) (mg : Str → Option Value) (base : Heap) (C : Addr) (fs : List Str) : Prop where
  oex : OexC K C
  no : ∀ f ∈ fs, PySem.W.findIn K (.ref C) f = some none
  ini : ∃ (fI : Addr) (fd : FuncData) (ps : List Str), PySem.W.findIn K (.ref C) "__init__" = some (some (.ref fI)) ∧ PySem.W.typeIn K (.ref fI) = some (.type "function") ∧ Binds K fd ps [] ∧ FnOk P w K mg base (L2.CX P w) 1 fI fd ps (spInit K fs)
section
variable {X : Cx} {W : WX} {pos pos2 p : Pos} {a : Expr} {es : List Expr} {g : DA} {ks : List Nat} {ca : Nat → Addr}
theorem paired_snoc2 {α β : Type} {R : α → β → Prop} : ∀ {p : List α} {q : List β} {x : α} {y : β}, Paired R p q → R x y → Paired R (p ++ [x]) (q ++ [y])
  | _, _, _, _, .nil, h => .cons h .nil
  | _, _, _, _, .cons a r, h => .cons a (paired_snoc2 r h)
theorem paired_rev {α β : Type} {R : α → β → Prop} : ∀ {xs : List α} {ys : List β}, Paired R xs ys → Paired R xs.reverse ys.reverse
  | _, _, .nil => .nil
  | _, _, .cons r rs => by
    rw [List.reverse_cons, List.reverse_cons]
    exact paired_snoc2 (paired_rev rs) r
theorem passes_none {X : Cx} : Passes (L2.CX X.prog X.w) X (fun _ _ _ => False) := fun pins σ H s e s' I h => by
  obtain ⟨_, _, _, _, _, _, _, _, _, _, _, _, z⟩ := h
  exact z.elim
theorem z_raiseF {n : Nat} {fs : List Str} {x : Str} (xf : XF X.K X.mg ks ca) (hc : X.calm = true) (tk : L2.Takes X W) (hn : n ∈ ks) (T : IniF X.prog X.w X.K X.mg X.base (ca n) fs) (hx : x = exN n) (hr : Room 2 X.A) (hg : Gl X x) (h1 : 1 ≤ fs.length) (h9 : fs.length ≤ 900) (ha : PAd X noG W (a :: es) g)
    (hdb : (x == ("__debug__" : Str)) = false := by decide) (he : starEach (a :: es) X.env = (false, eval a X.env) :: starEach es X.env := by rfl) (hpl : (backTo pos (starEach es X.env)).any (·.1) = false := by rfl) :
    PSd X noG W (.Raise (some (.Call (.Name x p) (a :: es) [] pos)) none pos2) (dRaiseF n fs g) := by
  obtain ⟨fI, fd, ps, e1, e2, hb, F1⟩ := T.ini
  refine PS.weak (ps_raise hc tk (pmk_oex T.oex e1 e2 F1 hr hb .nil passes_none hg (by rw [hx]; exact xf.has n hn) ha hdb he hpl)) fun D0 σ H q => ?_
  obtain ⟨F, I, ρ, E, R, f1, k⟩ := q
  refine ⟨F, I, ρ, _, E.ex, R, f1, fun os ρ1 vs F1 I1 H1 f2 s1 R1 r1 => ?_, k.xend⟩
  obtain ⟨ds, e, hl, f3⟩ := onlyK_of f2
  have r := onlyD_ok r1 e
  have hv : vs.length = fs.length := by rw [r.length]; exact hl
  refine ⟨by omega, fun a0 ha0 => ⟨a0, ca n, vs, by simp, hv, upd_same, T.oex, T.no, fun dx H' hdx hne h1' h2' h3' => ⟨rfl, dx, _, h1', h2', ?_, ?_⟩⟩⟩
  · rw [upd_ne hne] at hdx; exact hdx
  · have hdx0 : H1 dx = none := by rw [upd_ne hne] at hdx; exact hdx
    have eH : upd (L2.del H' a0) dx (.xd (fs.zip vs).reverse) = upd H1 dx (.xd (fs.zip vs).reverse) := by
      funext b
      by_cases hb' : b = dx
      · subst hb'; rw [upd_same, upd_same]
      · rw [upd_ne hb', upd_ne hb']
        by_cases hb2 : b = a0
        · subst hb2; rw [del_same, ha0]
        · rw [del_ne hb2, h3' b hb2 hb', upd_ne hb2]
    rw [eH]
    obtain ⟨R2, s2⟩ := R1.newI (x := .xd (fs.zip vs).reverse) hdx0
    refine k.ex _ ρ1 _ _ σ F1 _ _ f3 (s1.trans s2) R2 ⟨_, xf.has n hn, rfl, .inr ⟨dx, _, rfl, upd_same, ?_⟩⟩
    have pr : ∀ {fs : List Str} {vs : List V} {ds : List D}, DdAll ⟨X.K, X.mg, noG⟩ I1 vs ds → Paired (fun (u : Str × V) (q : Str × D) => u.1 = q.1 ∧ Dd ⟨X.K, X.mg, noG⟩ (upd I1 dx (.xd (fs.zip vs).reverse)) u.2 q.2) (fs.zip vs) (fs.zip ds) := by
      intro fs vs ds r
      have hm : ∀ {v d}, Dd ⟨X.K, X.mg, noG⟩ I1 v d → Dd ⟨X.K, X.mg, noG⟩ (upd I1 dx (.xd (fs.zip vs).reverse)) v d := fun z => Dd.mono (same_upd (R1.fresh hdx0)) z
      revert hm
      generalize (upd I1 dx (.xd (fs.zip vs).reverse)) = J
      intro hm
      induction fs generalizing vs ds with
      | nil => exact .nil
      | cons f fs ih =>
        cases r with
        | nil => exact .nil
        | cons r0 rs => exact .cons ⟨rfl, hm r0⟩ (ih rs)
    have := pr (fs := fs) r
    exact paired_rev this
end
theorem FnOk.never {P : Program} {w : World} {K : PySem.W.Frag} {mg : Str → Option Value} {base : Heap} {CX : CXT} {k : Nat} {f : Addr} {fd : FuncData} {ps : List Str} {p : Pm} {sp : DSp} (h : ∀ os PP PX, sp os PP PX → False) : FnOk P w K mg base CX k f fd ps (spOf p sp) :=
  ⟨fun _ _ _ _ ⟨_, _, _, _, _, _, _, q, _⟩ => (h _ _ _ q).elim, fun _ _ _ _ _ _ _ _ _ _ _ _ _ ⟨_, _, _, _, _, _, _, q, _⟩ => (h _ _ _ q).elim⟩
end Dt

/-! # Dt: own lists that are lent for a call as data -/
namespace Dt
open PySem PySem.Spec PyProof.Rows L2
mutual
/-- no list in it -/
def noL : D → Bool
  | .list _ => false
  | .dict kvs => noLp kvs
  | .tuple ds => noLs ds
  | _ => true
def noLs : List D → Bool
  | [] => true
  | d :: ds => noL d && noLs ds
def noLp : List (D × D) → Bool
  | [] => true
  | (_, d) :: ds => noL d && noLp ds
end
/-- all but lists stays -/
abbrev Thw (I J : Hp) : Prop := ∀ a u, (∀ xs, u ≠ HO.lst xs) → I a = some u → J a = some u
def noLX (x : Exn) : Bool := x.fs.all fun q => noL q.2
theorem nl_frz {o : Obj} {u : HO} : ∀ xs, HO.frz o u ≠ HO.lst xs := fun _ h => by cases h
theorem nl_ins {C dx : Addr} {fs : List (Str × V)} : ∀ xs, HO.ins C dx fs ≠ HO.lst xs := fun _ h => by cases h
theorem nl_dK {fs : List (Key × V)} : ∀ xs, HO.dK fs ≠ HO.lst xs := fun _ h => by cases h
theorem noL_tup {ds : List D} (h : noL (.tuple ds) = true) : noLs ds = true := by unfold noL at h; exact h
theorem noL_dict {q : D × D} {ds : List (D × D)} (h : noL (.dict (q :: ds)) = true) : noLp ds = true := by
  unfold noL at h; unfold noLp at h; rw [Bool.and_eq_true] at h; exact h.2
theorem noLs_cons {d : D} {ds : List D} (h : noLs (d :: ds) = true) : noL d = true ∧ noLs ds = true := by
  unfold noLs at h; rw [Bool.and_eq_true] at h; exact h
theorem noLp_cons {a d : D} {ds : List (D × D)} (h : noLp ((a, d) :: ds) = true) : noL d = true ∧ noLp ds = true := by
  unfold noLp at h; rw [Bool.and_eq_true] at h; exact h
mutual
theorem Dd.thaw {p : Pm} {I J : Hp} (e : Thw I J) : ∀ {v : V} {d : D}, Dd p I v d → noL d = true → Dd p J v d
  | _, _, .non, _ => .non
  | _, _, .bl b, _ => .bl b
  | _, _, .int i, _ => .int i
  | _, _, .str x, _ => .str x
  | _, _, .lst _ _, h => by unfold noL at h; cases h
  | _, _, .tup g z hs, h => .tup (e _ _ nl_frz g) z (DdAll.thaw e hs (noL_tup h))
  | _, _, .ins c g hs, h => .ins c (e _ _ nl_ins g) (DdFs.thaw e hs (noL_dict h))
  | _, _, .dic g hs, h => .dic (e _ _ nl_dK g) (DdKv.thaw e hs (noL_dict h))
  | _, _, .dicL g hs, h => .dicL (e _ _ nl_frz g) (DdKv.thaw e hs (noL_dict h))
  | _, _, .scr g l, h => .scr (scr_same g fun _ => e _ _ nl_frz) l
  | _, _, .fn g, h => .fn g
theorem DdAll.thaw {p : Pm} {I J : Hp} (e : Thw I J) : ∀ {vs : List V} {ds : List D}, DdAll p I vs ds → noLs ds = true → DdAll p J vs ds
  | _, _, .nil, _ => .nil
  | _, _, .cons r rs, h => .cons (Dd.thaw e r (noLs_cons h).1) (DdAll.thaw e rs (noLs_cons h).2)
theorem DdFs.thaw {p : Pm} {I J : Hp} (e : Thw I J) : ∀ {vs : List (Str × V)} {ds : List (D × D)}, DdFs p I vs ds → noLp ds = true → DdFs p J vs ds
  | _, _, .nil, _ => .nil
  | _, _, .cons r rs, h => .cons (Dd.thaw e r (noLp_cons h).1) (DdFs.thaw e rs (noLp_cons h).2)
theorem DdKv.thaw {p : Pm} {I J : Hp} (e : Thw I J) : ∀ {vs : List (Key × V)} {ds : List (D × D)}, DdKv p I vs ds → noLp ds = true → DdKv p J vs ds
  | _, _, .nil, _ => .nil
  | _, _, .cons r rs, h => .cons (Dd.thaw e r (noLp_cons h).1) (DdKv.thaw e rs (noLp_cons h).2)
end
theorem noLs_map {α : Type} {f : α → D} (h : ∀ a, noL (f a) = true) : ∀ xs : List α, noLs (xs.map f) = true
  | [] => rfl
  | x :: xs => by rw [List.map_cons, noLs, h x, noLs_map h xs]; rfl
theorem noL_int (i : Int) : noL (.int i) = true := rfl
theorem noL_heap (h : List Int) : noL (hD h) = true := noLs_map noL_int h
theorem noL_rule (r : List (List Int)) : noL (rD r) = true := noLs_map noL_heap r
theorem noLs_ints (h : List Int) : noLs (h.map PyData.int) = true := noLs_map noL_int h
theorem noLs_heaps (r : List (List Int)) : noLs (r.map hD) = true := noLs_map noL_heap r
/-! ### own lists that are data for the time of one expression -/
def noLC : C → Bool
  | .lst ds => noLs ds
  | .st _ => true
  | .dic kvs => kvs.all fun q => noL q.2
  | .desk h ps qs => noL h && noLs ps && noLs qs
  | .dcN _ => false
  | .ll _ => false
def thawS (s : Option S) : Option S → Prop
  | none => True
  | some (.d d) => s = some (.d d) ∨ noL d = true
  | some (.own c) => noLC c = true
  | some (.lent _ c) => noLC c = true
  | some (.exc x) => noLX x = true
def thawG : Nat → Rho → Rho → Prop
  | _, _, [] => True
  | _, [], _ :: _ => False
  | 0, _ :: ρ, _ :: ρ1 => thawR ρ ρ1
  | j + 1, s :: ρ, t :: ρ1 => thawS s t ∧ thawG j ρ ρ1
where thawR : Rho → Rho → Prop
  | _, [] => True
  | [], _ :: _ => False
  | s :: ρ, t :: ρ1 => thawS s t ∧ thawR ρ ρ1
theorem noLs_bools (h : List Bool) : noLs (h.map PyData.bool) = true := noLs_map (fun _ => rfl) h
end Dt

/-! # Dt: plain helpers -/
namespace Dt
open PySem PySem.Spec PyProof.Rows L2
section
variable {α : Type} {g : DG} {t : DT} {e : DE} {vs : List Nat} {P : List D → Rho → Prop} {xs : List α} {ρ : Rho}
/-- each item gives a number -/
theorem compGo_mapI (enc : α → D) (f : α → Int)
    (step : ∀ x ∈ xs, ∀ acc (K : List D → Rho → Prop), K (acc ++ [.int (f x)]) ρ → g (enc x) ρ fun ρ1 => t ρ1 (fun b ρ2 => (b = true → e ρ2 (fun o ρ3 => onlyd o fun d' => K (acc ++ [d']) (wipeR ρ3 vs)) noX) ∧ (b = false → K acc (wipeR ρ2 vs))) noX)
    (done : P ((xs.map f).map PyData.int) ρ) : compGo g t e vs P (xs.map enc) [] ρ :=
  compGo_map enc (fun x => .int (f x)) step (by rw [List.nil_append]; rw [List.map_map] at done; exact done)
theorem compGo_mapB (enc : α → D) (f : α → Bool)
    (step : ∀ x ∈ xs, ∀ acc (K : List D → Rho → Prop), K (acc ++ [.bool (f x)]) ρ → g (enc x) ρ fun ρ1 => t ρ1 (fun b ρ2 => (b = true → e ρ2 (fun o ρ3 => onlyd o fun d' => K (acc ++ [d']) (wipeR ρ3 vs)) noX) ∧ (b = false → K acc (wipeR ρ2 vs))) noX)
    (done : P ((xs.map f).map PyData.bool) ρ) : compGo g t e vs P (xs.map enc) [] ρ :=
  compGo_map enc (fun x => .bool (f x)) step (by rw [List.nil_append]; rw [List.map_map] at done; exact done)
theorem compGo_mapH (enc : α → D) (f : α → Heap1)
    (step : ∀ x ∈ xs, ∀ acc (K : List D → Rho → Prop), K (acc ++ [hD (f x)]) ρ → g (enc x) ρ fun ρ1 => t ρ1 (fun b ρ2 => (b = true → e ρ2 (fun o ρ3 => onlyd o fun d' => K (acc ++ [d']) (wipeR ρ3 vs)) noX) ∧ (b = false → K acc (wipeR ρ2 vs))) noX)
    (done : P ((xs.map f).map hD) ρ) : compGo g t e vs P (xs.map enc) [] ρ :=
  compGo_map enc (fun x => hD (f x)) step (by rw [List.nil_append]; rw [List.map_map] at done; exact done)
/-- those that are kept, as they are -/
theorem compGo_keep (enc : α → D) (keep : α → Bool)
    (step : ∀ x ∈ xs, ∀ acc (K : List D → Rho → Prop), (keep x = true → K (acc ++ [enc x]) ρ) → (keep x = false → K acc ρ) → g (enc x) ρ fun ρ1 => t ρ1 (fun b ρ2 => (b = true → e ρ2 (fun o ρ3 => onlyd o fun d' => K (acc ++ [d']) (wipeR ρ3 vs)) noX) ∧ (b = false → K acc (wipeR ρ2 vs))) noX)
    (done : P ((xs.filter keep).map enc) ρ) : compGo g t e vs P (xs.map enc) [] ρ :=
  compGo_filter enc keep enc step (by rw [List.nil_append]; exact done)
end
theorem cut_take {α : Type} (xs : List α) {k : Int} (h : 0 ≤ k) : cut xs none (some k) = xs.take k.toNat := by
  unfold cut HT.sIx
  simp only []
  by_cases h2 : k ≤ xs.length
  · have e : ¬ k < 0 := by omega
    simp [e, h2]
    try omega
  · have e : ¬ k < 0 := by omega
    simp [e, h2]
    try omega
theorem cutM_take {α β : Type} (f : α → β) (xs : List α) {k : Int} (h : 0 ≤ k) : cut (xs.map f) none (some k) = (xs.take k.toNat).map f := by rw [cut_take _ h, List.map_take]
theorem getK_hd {α : Type} {d : α} {ds : List α} {k : α → Prop} (q : k d) : getK (atI (d :: ds) 0) k := getK_in (atI_nat (j := 0) (by rfl)) q
theorem getK_hdM {α β : Type} {f : α → β} {x : α} {xs : List α} {k : β → Prop} (q : k (f x)) : getK (atI ((x :: xs).map f) 0) k := getK_hd q
/-- the loop so far -/
theorem forGo_pre {α : Type} {g : DG} {b : DS} {E : DEnds} (enc : α → D) (Inv : List α → Rho → Prop) {xs : List α}
    (step : ∀ p x r ρ (K : Rho → Prop), xs = p ++ x :: r → (∀ ρ', Inv (p ++ [x]) ρ' → K ρ') → Inv p ρ → g (enc x) ρ fun ρ1 => b { E with nx := K, ct := K, bk := E.nx } ρ1) (done : ∀ ρ, Inv xs ρ → E.nx ρ) {ρ : Rho} (h : Inv [] ρ) : forGo g b E (xs.map enc) ρ := by
  refine forGo_ind enc (fun r ρ => ∃ p, xs = p ++ r ∧ Inv p ρ) (fun x r ρ K hK hi => ?_) (fun ρ hi => ?_) xs ρ ⟨[], rfl, h⟩
  · obtain ⟨p, e, hi⟩ := hi
    exact step p x r ρ K e (fun ρ' h' => hK ρ' ⟨p ++ [x], by rw [e]; simp, h'⟩) hi
  · obtain ⟨p, e, hi⟩ := hi
    rw [List.append_nil] at e
    subst e
    exact done ρ hi
/-- drawn for each -/
theorem paired_rel {α β : Type} {R : α → D → Prop} {S : α → β → Prop} {f : β → D} (h : ∀ x d, R x d → ∃ i, d = f i ∧ S x i) : ∀ {xs : List α} {ds : List D}, Paired R xs ds → ∃ ns : List β, ds = ns.map f ∧ Paired S xs ns
  | _, _, .nil => ⟨[], rfl, .nil⟩
  | _, _, .cons r rr => by
    obtain ⟨i, rfl, hi⟩ := h _ _ r
    obtain ⟨ns, rfl, h2⟩ := paired_rel h rr
    exact ⟨i :: ns, rfl, .cons hi h2⟩
theorem paired_all {α β : Type} {R : α → β → Prop} {S : β → Prop} (h : ∀ x y, R x y → S y) : ∀ {xs : List α} {ys : List β}, Paired R xs ys → ∀ y ∈ ys, S y
  | _, _, .nil, y, hy => by cases hy
  | _, _, .cons r rr, y, hy => by
    rcases List.mem_cons.mp hy with rfl | hy
    · exact h _ _ r
    · exact paired_all h rr y hy
theorem zipD_map {α β : Type} (f : α → D) (g : β → D) : ∀ (xs : List α) (ys : List β), zipD (xs.map f) (ys.map g) = (xs.zip ys).map fun p => PyData.tuple [f p.1, g p.2]
  | [], ys => by simp [zipD]
  | x :: xs, [] => by simp [zipD]
  | x :: xs, y :: ys => by
    rw [List.map_cons, List.map_cons, List.zip_cons_cons, List.map_cons, ← zipD_map f g xs ys]
    rfl
theorem brSubT {n m : Nat} {A B : Prop} (h : subX n m = true) (q : A) : (subX n m = true → A) ∧ (subX n m = false → B) := ⟨fun _ => q, fun z => by rw [h] at z; cases z⟩
theorem brSubF {n m : Nat} {A B : Prop} (h : subX n m = false) (q : B) : (subX n m = true → A) ∧ (subX n m = false → B) := ⟨fun z => absurd (h.symm.trans z) (by decide), fun _ => q⟩
theorem down_unique {xs ys : List Int} (p : xs.Perm ys) (h1 : xs.Pairwise (· ≥ ·)) (h2 : ys.Pairwise (· ≥ ·)) : xs = ys := (srtR_eq (p.trans (List.Perm.refl _)) h1).trans (srtR_self h2)
theorem brBn {c : Bool} {A B : Prop} (h1 : c = false → A) (h2 : c = true → B) : ((!c) = true → A) ∧ ((!c) = false → B) := by
  cases c <;> simp <;> first | exact h1 rfl | exact h2 rfl
theorem intsK_app {a b : List Int} {k : List Int → Prop} (q : k (a ++ b)) : intsK (a.map PyData.int ++ b.map PyData.int) k := intsK_mk (a ++ b) List.map_append.symm q
theorem heapK_app {a b : List Int} {k : Heap1 → Prop} (q : k (a ++ b)) : heapK (.tuple (a.map PyData.int ++ b.map PyData.int)) k := heapK_mk (a ++ b) (by show _ = PyData.tuple ((a ++ b).map PyData.int); rw [List.map_append]) q
theorem brAT {c : Bool} {A B : Prop} (h : c = true) (q : A) : (c = true → A) ∧ (c = false → B) := ⟨fun _ => q, fun z => by rw [h] at z; cases z⟩
theorem brAF {c : Bool} {A B : Prop} (h : c = false) (q : B) : (c = true → A) ∧ (c = false → B) := ⟨(fun z => by rw [h] at z; cases z), fun _ => q⟩
theorem brNAT {c : Bool} {A B : Prop} (h : c = true) (q : B) : ((!c) = true → A) ∧ ((!c) = false → B) := ⟨(fun z => by rw [h] at z; cases z), fun _ => q⟩
theorem brNAF {c : Bool} {A B : Prop} (h : c = false) (q : A) : ((!c) = true → A) ∧ ((!c) = false → B) := ⟨fun _ => q, fun z => by rw [h] at z; cases z⟩
end Dt

/-! # Dt: partings, by plain lists -/
namespace Dt
open PySem PySem.Spec PyProof.Rows L2
theorem downTo_succ (M : Nat) : downTo (M + 1) = (M + 1) :: downTo M := by
  unfold downTo
  rw [List.range_succ_eq_map]
  simp only [List.map_cons, List.map_map, Nat.sub_zero]
  congr 1
  apply List.map_congr_left
  intro j hj
  show M + 1 - (j + 1) = M - j
  omega
theorem mem_downTo {M p : Nat} : p ∈ downTo M ↔ 1 ≤ p ∧ p ≤ M := by
  unfold downTo
  rw [List.mem_map]
  constructor
  · rintro ⟨j, hj, rfl⟩
    have := List.mem_range.mp hj
    omega
  · rintro ⟨h1, h2⟩
    exact ⟨M - p, List.mem_range.mpr (by omega), by omega⟩
def gLen (n : Nat) : Nat := if n = 0 then 1 else 2 ^ (n - 1)
theorem gLen_sum (n : Nat) : ∀ M, M + 1 ≤ n → ((downTo M).map fun p => gLen (n - p)).sum + gLen (n - M) = gLen n
  | 0, _ => by simp [downTo]
  | M + 1, h => by
    have ih := gLen_sum n M (by omega)
    rw [downTo_succ, List.map_cons, List.sum_cons]
    have e : gLen (n - M) = gLen (n - (M + 1)) + gLen (n - (M + 1)) := by
      unfold gLen
      rw [if_neg (by omega), if_neg (by omega), show n - M - 1 = (n - (M + 1) - 1) + 1 from by omega, Nat.pow_succ]
      omega
    omega
theorem gLen_le (n M : Nat) (h : M ≤ n) (hn : 1 ≤ n) : ((downTo M).map fun p => gLen (n - p)).sum ≤ gLen n := by
  by_cases e : M = n
  · subst e
    obtain ⟨m, rfl⟩ : ∃ m, M = m + 1 := ⟨M - 1, by omega⟩
    have := gLen_sum (m + 1) m (by omega)
    rw [downTo_succ, List.map_cons, List.sum_cons]
    have e1 : gLen (m + 1 - (m + 1)) = 1 := by simp [gLen]
    have e2 : gLen (m + 1 - m) = 1 := by rw [show m + 1 - m = 1 from by omega]; rfl
    omega
  · have := gLen_sum n M (by omega)
    omega
theorem flat_len {α β : Type} (f : α → List β) (g : α → Nat) : ∀ l : List α, (∀ a ∈ l, (f a).length ≤ g a) → (l.flatMap f).length ≤ (l.map g).sum
  | [], _ => by simp
  | a :: l, h => by
    rw [List.flatMap_cons, List.length_append, List.map_cons, List.sum_cons]
    have := h a (by simp)
    have := flat_len f g l fun b hb => h b (by simp [hb])
    omega
theorem gLen_pos (n : Nat) : 1 ≤ gLen n := by unfold gLen; split; · omega
                                              · exact Nat.one_le_two_pow
theorem pts_len : ∀ (k n m : Nat), (pts k n m).length ≤ gLen n
  | 0, n, _ => by rw [pts]; exact Nat.zero_le _
  | k + 1, n, m => by
    rw [pts]
    by_cases e : n = 0
    · rw [if_pos e]; exact gLen_pos n
    · rw [if_neg e]
      refine Nat.le_trans (flat_len _ (fun p => gLen (n - p)) _ fun p hp => ?_) (gLen_le n _ (Nat.min_le_left _ _) (by omega))
      rw [List.length_map]
      exact pts_len k _ _
theorem gLen_mono {n m : Nat} (h : n ≤ m) : gLen n ≤ gLen m := by
  unfold gLen
  by_cases e : n = 0
  · rw [if_pos e]; split; · omega
    · exact Nat.one_le_two_pow
  · rw [if_neg e, if_neg (by omega)]
    exact Nat.pow_le_pow_right (by omega) (by omega)
theorem pts_len24 {k n m : Nat} (h : n ≤ 24) : (pts k n m).length ≤ 8388608 := Nat.le_trans (pts_len k n m) (Nat.le_trans (gLen_mono h) (by decide))
theorem flat_pre {α β : Type} (f : α → List β) {l p r : List α} (e : l = p ++ r) : (p.flatMap f).length ≤ (l.flatMap f).length := by
  subst e
  rw [List.flatMap_append, List.length_append]; omega
theorem pts_mem : ∀ (k n m : Nat) (r : Heap1), r ∈ pts k n m → r.sum = (n : Int) ∧ (∀ x ∈ r, 1 ≤ x ∧ x ≤ (m : Int)) ∧ r.Pairwise (· ≥ ·)
  | 0, _, _, _, h => by rw [pts] at h; cases h
  | k + 1, n, m, r, h => by
    rw [pts] at h
    by_cases e : n = 0
    · rw [if_pos e, List.mem_singleton] at h
      subst h e
      exact ⟨rfl, by simp, List.Pairwise.nil⟩
    · rw [if_neg e, List.mem_flatMap] at h
      obtain ⟨p, hp, h⟩ := h
      obtain ⟨s, hs, rfl⟩ := List.mem_map.mp h
      have hp := mem_downTo.mp hp
      obtain ⟨h1, h2, h3⟩ := pts_mem k (n - p) p s hs
      refine ⟨by rw [List.sum_cons, h1]; omega, fun x hx => ?_, List.pairwise_cons.mpr ⟨fun x hx => (h2 x hx).2, h3⟩⟩
      rcases List.mem_cons.mp hx with rfl | hx
      · omega
      · have := h2 x hx; omega
theorem len_le_sum : ∀ {r : Heap1}, (∀ x ∈ r, 1 ≤ x) → (r.length : Int) ≤ r.sum
  | [], _ => by simp
  | x :: r, h => by
    have h1 := h x (by simp)
    have := len_le_sum (r := r) fun y hy => h y (by simp [hy])
    rw [List.sum_cons, List.length_cons]
    omega
theorem pts_small {k n m : Nat} {r : Heap1} (h : r ∈ pts k n m) : r.length ≤ n := by
  obtain ⟨h1, h2, _⟩ := pts_mem k n m r h
  have := len_le_sum fun x hx => (h2 x hx).1
  omega
theorem pts_heap {k n m : Nat} {r : Heap1} (h : r ∈ pts k n m) : isHeap r := by
  obtain ⟨h1, h2, h3⟩ := pts_mem k n m r h
  exact ⟨h3, fun x hx => (h2 x hx).1⟩
theorem alike_ints : ∀ a b : List Int, PySem.W.alikeAll (a.map PyData.int) (b.map PyData.int) = true
  | [], _ => rfl
  | _ :: _, [] => rfl
  | x :: a, y :: b => by
    rw [List.map_cons, List.map_cons, PySem.W.alikeAll, alike_ints a b]
    rfl
theorem depth_ints : ∀ a : List Int, PyData.depthAll (a.map PyData.int) ≤ 1
  | [] => by simp [PyData.depthAll]
  | x :: a => by
    have := depth_ints a
    simp only [List.map_cons, PyData.depthAll, PyData.depth]
    omega
theorem ord_ok (a b : Heap1) : SeqAt.shaped (hD a) = true ∧ SeqAt.shaped (hD b) = true ∧ PySem.W.alike (hD a) (hD b) = true ∧ PyData.depth (hD a) ≤ 64 := by
  refine ⟨sh_heap a, sh_heap b, ?_, ?_⟩
  · show PySem.W.alike (.tuple _) (.tuple _) = true
    rw [PySem.W.alike]; exact alike_ints a b
  · have := depth_ints a
    show PyData.depth (.tuple _) ≤ 64
    simp only [PyData.depth]
    omega
theorem getK_last {α β : Type} {f : α → β} {xs : List α} {k : β → Prop} (h : xs ≠ []) (q : k (f (xs.getLast h))) : getK (atI (xs.map f) (-1)) k := by
  have hl := List.length_pos_iff.mpr h
  refine getK_in (d := f (xs.getLast h)) ?_ q
  unfold atI ixN
  rw [List.length_map, if_neg (by omega), if_pos (by omega)]
  show (xs.map f)[(-1 + (xs.length : Int)).toNat]? = _
  rw [show (-1 + (xs.length : Int)).toNat = xs.length - 1 from by omega, List.getElem?_map, List.getLast_eq_getElem, List.getElem?_eq_getElem (by omega)]
  rfl
theorem intsK_as {ds : List D} {ns : List Int} {k : List Int → Prop} (e : asInts ds = some ns) (q : k ns) : intsK ds k := by unfold intsK; rw [e]; exact q
theorem boolsK_as {ds : List D} {ns : List Bool} {k : List Bool → Prop} (e : asBools ds = some ns) (q : k ns) : boolsK ds k := by unfold boolsK; rw [e]; exact q
theorem pts_ne : ∀ k n m : Nat, n < k → (n = 0 ∨ 1 ≤ m) → pts k n m ≠ []
  | 0, _, _, h, _ => by omega
  | k + 1, n, m, h, hm => by
    rw [pts]
    by_cases e : n = 0
    · rw [if_pos e]; simp
    · rw [if_neg e]
      have ih := pts_ne k (n - 1) 1 (by omega) (.inr (Nat.le_refl _))
      obtain ⟨r, hr⟩ := List.exists_mem_of_ne_nil _ ih
      exact List.ne_nil_of_mem (List.mem_flatMap.mpr ⟨1, mem_downTo.mpr ⟨by omega, by omega⟩, List.mem_map.mpr ⟨r, hr, rfl⟩⟩)
/-! ### heaps of a rule that lie in a heap -/
def enumH {α : Type} : Nat → List α → List (Nat × α)
  | _, [] => []
  | i, x :: xs => (i, x) :: enumH (i + 1) xs
theorem pairD_map {α : Type} (f : α → D) (k : Int) : ∀ (i : Nat) (xs : List α), pairD k i (xs.map f) = (enumH i xs).map fun p => PyData.tuple [.int (k + (p.1 : Int)), f p.2]
  | i, [] => rfl
  | i, x :: xs => by
    rw [List.map_cons, enumH, List.map_cons, ← pairD_map f k (i + 1) xs]
    rfl
def allIn (r : List Heap1) (h : Heap1) : List Int := ((enumH 0 r).filter fun p => liesIn p.2 h).map fun p => (p.1 : Int)
def optI : Option Nat → D
  | none => .none
  | some i => .int (i : Int)
theorem allIn_head0 (h : Heap1) : ∀ (i : Nat) (r : List Heap1), (((enumH i r).filter fun p => liesIn p.2 h).map fun p => (p.1 : Int)).head? = (r.findIdx? fun x => liesIn x h).map fun j => ((i + j : Nat) : Int)
  | i, [] => rfl
  | i, x :: r => by
    rw [enumH, List.filter_cons, List.findIdx?_cons]
    cases e : liesIn x h with
    | true => simp
    | false =>
      simp only [Bool.false_eq_true, if_false]
      rw [allIn_head0 h (i + 1) r]
      cases (r.findIdx? fun x => liesIn x h) with
      | none => rfl
      | some j => simp; omega
def headD : Option Int → D
  | none => .none
  | some i => .int i
theorem allIn_head (r : List Heap1) (h : Heap1) : headD (allIn r h).head? = optI (firstN r h) := by
  unfold allIn firstN
  rw [allIn_head0 h 0 r]
  cases (r.findIdx? fun x => liesIn x h) with
  | none => rfl
  | some j => simp [headD, optI]
theorem keepB_first (r : List Heap1) (h : Heap1) : keepB r h = (firstN r h).isNone := by
  unfold keepB firstN
  rw [List.findIdx?_isNone]
  congr 1
  funext x
  cases liesIn x h <;> rfl
theorem range_split {n x : Nat} {p r : List Nat} (e : List.range n = p ++ x :: r) : p = List.range x ∧ x < n := by
  have h1 : (List.range n)[p.length]? = some x := by rw [e]; simp
  have hl : p.length < n := by
    have := congrArg List.length e
    simp at this
    omega
  rw [List.getElem?_range hl] at h1
  have hx : p.length = x := by simpa using h1
  refine ⟨?_, by omega⟩
  have : p = (List.range n).take p.length := by rw [e]; simp
  rw [this, hx, List.take_range]
  congr 1
  omega
theorem getK_nat {α β : Type} {f : α → β} {xs : List α} {i : Int} {k : β → Prop} (a : Nat) (e : i = (a : Int)) (h : a < xs.length) (q : k (f xs[a])) : getK (atI (xs.map f) i) k := by
  subst e
  refine getK_in (atI_nat (j := a) (v := f xs[a]) ?_) q
  rw [List.getElem?_map, List.getElem?_eq_getElem h]
  rfl
/-! ### lists of heaps, handed over -/
def lhK (d : D) (k : List Heap1 → Prop) : Prop := (cL cHeap).K d k
theorem lhK_of {d : D} {k : List Heap1 → Prop} (h : lhK d k) : ∃ a : List Heap1, d = .list (a.map hD) ∧ k a := Cod.K_of h
theorem lhK_in {r : List Heap1} {k : List Heap1 → Prop} (q : k r) : lhK (.list (r.map hD)) k := by
  have := (cL cHeap).K_enc r k
  unfold lhK
  show (cL cHeap).K ((cL cHeap).enc r) k
  rw [this]; exact q
end Dt

/-! # Dt: choices, by plain lists -/
namespace Dt
open PySem PySem.Spec PyProof.Rows L2
theorem chosenL_map {α β : Type} (f : α → β) (xs : List α) : chosenL (xs.map f) = (chosenL xs).map (List.map f) := by
  unfold chosenL
  rw [List.map_map, List.length_map]
  apply List.map_congr_left
  intro c _
  exact pickL_map f c xs
theorem chosenL_len {α : Type} (xs : List α) : (chosenL xs).length = 2 ^ xs.length := by unfold chosenL; simp
theorem choicesL_len (m : Nat) : (choicesL m).length = 2 ^ m := by rw [choicesL_range, chosenL_len]; simp
theorem choicesL_small {m : Nat} {c : List Int} (h : c ∈ choicesL m) : c.length ≤ m := by
  rw [choicesL_range] at h
  have := (chosenL_sub h).length_le
  simpa using this
theorem pickL_enum {α : Type} (c : Nat) : ∀ (i : Nat) (xs : List α), ((enumH i xs).filter fun p => decide ((c : Int) / 2 ^ p.1 % 2 = 1)).map (·.2) = pickL (c / 2 ^ i) xs
  | _, [] => rfl
  | i, x :: xs => by
    have e : decide ((c : Int) / 2 ^ i % 2 = 1) = decide (c / 2 ^ i % 2 = 1) := by
      rw [decide_eq_decide]
      have : (c : Int) / 2 ^ i % 2 = ((c / 2 ^ i % 2 : Nat) : Int) := by simp
      omega
    have ih := pickL_enum c (i + 1) xs
    rw [Nat.pow_succ, ← Nat.div_div_eq_div_mul] at ih
    rw [enumH, List.filter_cons, pickL, ← ih]
    show List.map _ (if decide ((c : Int) / 2 ^ i % 2 = 1) = true then _ else _) = _
    rw [e]
    by_cases h : c / 2 ^ i % 2 = 1
    · simp [h]
    · simp [h]
end Dt

/-! # Dt: dicts of our own, and such that never change -/
namespace Dt
open PySem PySem.Spec PyProof.Rows L2
def keyK (d : D) (k : Key → Prop) : Prop := match keyOf d with
  | some c => k c
  | none => False
theorem keyK_of {d : D} {k : Key → Prop} (h : keyK d k) : ∃ c, keyOf d = some c ∧ k c := by
  unfold keyK at h
  split at h
  · exact ⟨_, by assumption, h⟩
  · exact h.elim
section
variable {p : Pm} {I H : Hp}
theorem key_rel {v : V} {d : D} {k : Key} (h : Dd1 p I H v d) (e : keyOf d = some k) : v = kV k := by
  cases d with
  | int i => cases e; exact h.int
  | str i => cases e; exact h.str
  | _ => cases e
end
theorem unkD_ok {p : Pm} {I : Hp} : ∀ {kv : List (Key × V)} {ds : List (D × D)} {kvs : List (Key × D)}, DdKv p I kv ds → unkD ds = some kvs → KD p I kv kvs
  | _, _, _, .nil, h => by cases h; exact .nil
  | _, _, _, .cons (k := k) r rs, h => by
    have e : keyOf (keyD k) = some k := by cases k <;> rfl
    unfold unkD at h
    rw [e] at h
    simp only at h
    split at h
    · cases h
      exact .cons ⟨rfl, r⟩ (unkD_ok rs (by assumption))
    · cases h
def dicK (ρ : Rho) (j : Nat) (k : List (Key × D) → Prop) : Prop := match cst ρ j with
  | some (.dic kvs) => k kvs
  | _ => False
theorem dicO_of {ρ : Rho} {o : O} {k : List (Key × D) → Prop} (h : dicO ρ o k) : ∃ kvs, dcs ρ o = some kvs ∧ k kvs := by
  unfold dicO at h
  split at h
  · exact ⟨_, by assumption, h⟩
  · exact h.elim
theorem dicK_of {ρ : Rho} {j : Nat} {k : List (Key × D) → Prop} (h : dicK ρ j k) : ∃ kvs, cst ρ j = some (.dic kvs) ∧ k kvs := by
  unfold dicK at h
  split at h
  · exact ⟨_, by assumption, h⟩
  · exact h.elim
section
variable {p : Pm} {F F' F0 : Lab} {I I' I0 H0 H1 H H' : Hp} {σ : L2.St} {ρ ρ' : Rho} {v w : V} {o : O} {d : D}
theorem frz_dict {kvs : List (Key × D)} {ds : List (D × D)} (s : Same I H) (r : Dd p I v (.dict ((.none, .none) :: ds))) (h : unkD ds = some kvs) : ∃ a kv, v = .ref a ∧ H a = some (.dK kv) ∧ KD p I kv kvs := by
  cases r with
  | dic e q => exact ⟨_, _, rfl, s _ _ e, unkD_ok q h⟩
theorem dcs_ok {kvs : List (Key × D)} (R : Rel p F I H σ ρ) (r : ResOk p F I H0 H σ v o) (h : dcs ρ o = some kvs) : ∃ a kv, v = .ref a ∧ H a = some (.dK kv) ∧ KD p I kv kvs := by
  cases o with
  | loc j =>
    have h : (match cst ρ j with
      | some (.dic kvs) => some kvs
      | some _ => none
      | none => (match dat ρ j with
        | some (.dict ((.none, .none) :: ds)) => unkD ds
        | _ => none)) = some kvs := h
    split at h
    · rename_i ks q
      cases h
      obtain ⟨a, e, fp, ⟨_, kv, h1, h2⟩, _⟩ := R.cst r q
      exact ⟨a, kv, e, h1, h2⟩
    · cases h
    · split at h
      · rename_i q
        unfold dat at q
        split at q
        · rename_i q2
          cases q
          obtain ⟨u, h1, h2⟩ := R.slot j _ q2
          have r : σ[j]? = some (some v) := r
          rw [r] at h1; cases h1
          exact frz_dict R.sub h2 h
        · cases q
      · cases h
  | tmp c =>
    cases c with
    | dic ks =>
      cases h
      obtain ⟨a, e, fp, ⟨_, kv, h1, h2⟩, _⟩ := r
      exact ⟨a, kv, e, h1, h2⟩
    | _ => cases h
  | d d =>
    unfold dcs at h
    split at h
    · rename_i hh; cases hh
    · rename_i hh; cases hh
    · rename_i hh; cases hh
      exact frz_dict R.sub r h
    · cases h
  | exc x => cases h
/-- slot j's dict is rewritten -/
theorem mutD_ok {j : Nat} {a : Addr} {ds ds' : List (Key × D)} {vs' : List (Key × V)} (R : Rel p F I H σ ρ) (e : σ[j]? = some (some (.ref a))) (hc : cst ρ j = some (.dic ds)) (r : KD p I vs' ds') :
    Rel p F I (upd H a (.dK vs')) σ (putC ρ j (.dic ds')) ∧ Step F I H F I (upd H a (.dK vs')) := by
  obtain ⟨a', q, fp, ⟨rfl, ws, g1, g2⟩, g3⟩ := R.cst e hc
  cases q
  obtain ⟨f1, f2, _, f4⟩ := g3 a (by simp)
  have hi : ∀ b y, I b = some y → b ≠ a := fun b y z q => by rw [q, f2] at z; cases z
  have hne : ∀ b i, F b = some i → i ≠ j → b ≠ a := fun b i z n q => by rw [q, f1] at z; cases z; exact n rfl
  have th : ∀ b, H b ≠ none → (upd H a (.dK vs')) b ≠ none := fun b z => by
    by_cases hb : b = a
    · subst hb; rw [upd_same]; simp
    · rw [upd_ne hb]; exact z
  have own : Own p F I (upd H a (.dK vs')) (some j) (fun _ => True) a (.dic ds') := ⟨[a], ⟨rfl, vs', upd_same, r⟩, fun b hb => by
    have e : b = a := by simpa using hb
    subst e
    exact ⟨f1, f2, trivial, by rw [upd_same]; simp⟩⟩
  have hp : ∃ s, putC ρ j (.dic ds') = ρ.set j (some s) ∧ SlotOk p F I (upd H a (.dK vs')) j (.ref a) s := by
    unfold cst at hc
    split at hc
    · rename_i q
      exact ⟨.own (.dic ds'), by unfold putC; rw [q], a, rfl, own⟩
    · rename_i a0 c0 q
      obtain ⟨u, y1, y2, _⟩ := R.slot j _ q
      rw [e] at y1; cases y1; cases y2
      exact ⟨.lent a (.dic ds'), by unfold putC; rw [q], rfl, own⟩
    · cases hc
  obtain ⟨s, hp, hs⟩ := hp
  refine ⟨⟨fun b y z => by rw [upd_ne (hi b y z)]; exact R.sub b y z, fun b i z => ⟨(R.lab b i z).1, th b (R.lab b i z).2⟩, by rw [hp, List.length_set]; exact R.len, fun i sl z => ?_⟩,
    ⟨fun b y z n => by rw [upd_ne (fun q => by rw [q, f1] at n; cases n)]; exact z, fun _ _ z => z, fun _ z => .inl z, fun _ _ z => .inl z, th⟩⟩
  rw [hp] at z
  by_cases hij : j = i
  · subst hij
    have hj : j < ρ.length := by rw [R.len]; exact (List.getElem?_eq_some_iff.mp e).1
    rw [List.getElem?_set_self hj] at z
    cases z
    exact ⟨_, e, hs⟩
  · rw [List.getElem?_set_ne hij] at z
    obtain ⟨u, h1, h2⟩ := R.slot i sl z
    refine ⟨u, h1, ?_⟩
    have ow : ∀ {b : Addr} {c : C}, Own p F I H (some i) (fun _ => True) b c → Own p F I (upd H a (.dK vs')) (some i) (fun _ => True) b c := fun {b c} ⟨fp, g1, g2⟩ =>
      ⟨fp, g1.keep (fun z hz => upd_ne (hne z i (g2 z hz).1 (fun y => hij y.symm))) (fun _ _ e => e), fun z hz => ⟨(g2 z hz).1, (g2 z hz).2.1, trivial, th z (g2 z hz).2.2.2⟩⟩
    cases sl with
    | d d => exact h2
    | own c => obtain ⟨b, e, h2⟩ := h2; exact ⟨b, e, ow h2⟩
    | lent b c => exact ⟨h2.1, ow h2.2⟩
    | exc x => exact h2
end
/-! ### readings -/
def dDNew : DE := fun ρ P _ => P (.tmp (.dic [])) ρ
def dDPut (fe fa fb : DE) : DS := fun E ρ => fe ρ (fun o ρ1 => onlyd1 o fun d => fa ρ1 (fun o2 ρ2 => locK o2 fun j => fb ρ2 (fun o3 ρ3 => vw1 ρ3 o3 fun e => keyK e fun k => dicK ρ3 j fun kvs => kvs.length ≤ 16000000 ∧ E.nx (putC ρ3 j (.dic (putD kvs k d)))) E.ex) E.ex) E.ex
def dDList (fa : DE) : DE := fun ρ P PX => fa ρ (fun o ρ1 => dicO ρ1 o fun kvs => P (.tmp (.lst (kvs.map fun u => keyD u.1))) ρ1) PX
section
variable {X : Cx} {G : V → Nat → Option Addr → Prop} {W : WX} {pos pos' tpos apos cpos : Pos} {a b c e : Expr} {fa fb fc fe : DE}
theorem e_dnew : PEd X G W (.Dict [] [] pos) dDNew := PE.weak pe_dnewK fun σ H Q q => by
  obtain ⟨F, I, ρ, P, PX, R, f1, k, x⟩ := q
  intro a n
  exact Kont.dic (P := fun o => P o ρ) (fun o v' I' H' h s' R' r' => k o ρ v' F I' H' h s' R' r') R f1 .nil n
theorem z_dput (hu : X.A.units + 1 < cLine) (he : PEd X G W e fe) (ha : PEd X G W a fa) (hb : PEd X G W b fb) (hs : swapsWith e (some (.Subscript a b tpos)) pos.line X.env = pure false := by rfl) : PSd X G W (.Assign [.Subscript a b tpos] e pos) (dDPut fe fa fb) :=
  PS.weak (ps_dput hu ha hb he hs) fun D σ H q => by
    obtain ⟨F, I, ρ, E, R, f1, k⟩ := q
    have sl : (sizeLine : Nat) = 16777216 := sizeLine_eq
    refine ⟨F, I, ρ, _, E.ex, R, f1, fun o ρ1 v F1 I1 H1 f2 s1 R1 r1 => ?_, k.xend⟩
    obtain ⟨d, rfl, f2⟩ := onlyd1_of f2
    refine ⟨F1, I1, ρ1, _, E.ex, R1, f2, fun o2 ρ2 w F2 I2 H2 f3 s2 R2 r2 => ?_, (k.later s1).xend⟩
    obtain ⟨j, rfl, f3⟩ := locK_of f3
    have s12 := s1.trans s2
    refine ⟨F2, I2, ρ2, _, E.ex, R2, f3, fun o3 ρ3 u F3 I3 H3 f4 s3 R3 r3 => ?_, (k.later s12).xend⟩
    obtain ⟨d3, e3, f4⟩ := vw1_of f4
    obtain ⟨c, e4, f4⟩ := keyK_of f4
    obtain ⟨kvs, e5, hl, f4⟩ := dicK_of f4
    obtain ⟨a, rfl, fp, ⟨_, kv, h1, h2⟩, _⟩ := R3.cst r2 e5
    rw [key_rel (vw_ok R3 r3 e3) e4]
    have r1' : Dd (pm X G) I3 v d := Dd.mono (s2.trans s3).inc r1
    obtain ⟨R4, s4⟩ := mutD_ok R3 r2 e5 (h2.put c r1')
    exact ⟨a, _, rfl, DPut.k h1 (by rw [h2.length]; omega), k.nx _ σ F3 I3 _ f4 ((s12.trans s3).trans s4) R4⟩
theorem w_dlist {p : Pm} {r : List V → Hp → VK → Prop} {f : List (Key × D) → O} (hr : ∀ (F : Lab) (I H : Hp) (σ : L2.St) (ρ : Rho) (P : O → Prop) (Q : VK) (a : Addr) (kv : List (Key × V)) (kvs : List (Key × D)), Rel p F I H σ ρ → H a = some (.dK kv) → KD p I kv kvs → P (f kvs) → Kont p F I H σ ρ P Q → r [.ref a] H Q)
    (σ : L2.St) (H : Hp) (Q : VK) (q : tE p W (fun ρ P PX => fa ρ (fun o ρ1 => dicO ρ1 o fun kvs => P (f kvs) ρ1) PX) σ H Q) : tCB r (tCons (tE p W fa) tNil) σ H Q := by
  obtain ⟨F, I, ρ, P, PX, R, f1, k, x⟩ := q
  refine ⟨F, I, ρ, _, PX, R, f1, fun o ρ1 v F1 I1 H1 f2 s1 R1 r1 => ?_, x⟩
  obtain ⟨kvs, e, f2⟩ := dicO_of f2
  obtain ⟨a, kv, rfl, h1, h2⟩ := dcs_ok R1 r1 e
  exact hr F1 I1 H1 σ ρ1 (fun o => P o ρ1) Q a kv kvs R1 h1 h2 f2 fun o v' I' H' h s' R' r' => k o ρ1 v' F1 I' H' h (s1.trans s') R' (r'.older fun b e => s1.old e)
theorem e_dlist (hc : X.calm = true) (hg : Gl X "list") (hm : X.mg "list" = none) (ha : PEd X G W a fa) (he : starEach [a] X.env = (false, eval a X.env) :: starEach [] X.env := by rfl) (hpl : (backTo pos (starEach [] X.env)).any (·.1) = false := by rfl) :
    PEd X G W (.Call (.Name "list" pos') [a] [] pos) (dDList fa) := PE.weak (pe_callTy (call_listD hc) hg hm (by decide +kernel) (pa_cons ha pa_nil he) (by decide) (by decide) he hpl) fun σ H Q q =>
  w_dlist (f := fun (kvs : List (Key × D)) => O.tmp (C.lst (kvs.map fun (u : Key × D) => keyD u.1))) (fun F I H σ ρ P Q a kv kvs R h1 h2 h k => ⟨a, kv, rfl, .inl h1, fun q n => k.lst R h h2.keys n⟩) σ H Q q
end
/-! ### plain -/
theorem valD_put (kvs : List (Key × D)) (k j : Key) (y : D) : valD (putD kvs k y) j = if j = k then some y else valD kvs j := by
  have snoc : ∀ kvs : List (Key × D), (kvs.any fun kv => decide (kv.1 = k)) = false → valD (kvs ++ [(k, y)]) j = if j = k then some y else valD kvs j := fun kvs h => by
    induction kvs with
    | nil =>
      unfold valD
      by_cases e : j = k
      · simp [e]
      · have : ¬ k = j := fun z => e z.symm
        simp [e, this]
    | cons q r ih =>
      rw [List.any_cons, Bool.or_eq_false_iff] at h
      have ih := ih h.2
      have hk : ¬ q.1 = k := by simpa using h.1
      unfold valD at ih ⊢
      rw [List.cons_append, List.find?_cons, List.find?_cons]
      by_cases e : q.1 = j
      · have : ¬ j = k := fun z => hk (e.trans z)
        simp [e, this]
      · simp only [e, decide_false]
        exact ih
  have repl : ∀ kvs : List (Key × D), valD (kvs.map fun kv => if kv.1 = k then (kv.1, y) else kv) j = (valD kvs j).map fun x => if j = k then y else x := fun kvs => by
    induction kvs with
    | nil => rfl
    | cons q r ih =>
      unfold valD at ih ⊢
      rw [List.map_cons, List.find?_cons, List.find?_cons]
      have e1 : (if q.1 = k then (q.1, y) else q).1 = q.1 := by split <;> rfl
      rw [e1]
      by_cases e : q.1 = j
      · simp only [e, decide_true, Option.map_some]
        by_cases h : j = k
        · simp [h]
        · simp [h]
      · simp only [e, decide_false]
        exact ih
  unfold putD
  split
  · rename_i h
    rw [repl]
    by_cases e : j = k
    · subst e
      have : (valD kvs j).isSome = true := by
        unfold valD
        rw [Option.isSome_map, List.find?_isSome]
        obtain ⟨x, hx, hx2⟩ := List.any_eq_true.mp h
        exact ⟨x, hx, hx2⟩
      obtain ⟨z, hz⟩ := Option.isSome_iff_exists.mp this
      rw [hz]; simp
    · cases valD kvs j <;> simp [e]
  · rename_i h
    exact snoc kvs (Bool.eq_false_iff.mpr h)
theorem units1 {k : Nat} {A : Around} (r : Room k A) : A.units + 1 < cLine := by have := r.un; omega
end Dt

/-! # Dt: joined heaps, by plain lists -/
namespace Dt
open PySem PySem.Spec PyProof.Rows L2
theorem seenL_len (xs : List Int) : (seenL xs).length ≤ xs.length := by
  have := (seen_from xs [] (by simp)).2.2
  unfold seenL
  simpa using this
theorem seenL_snoc (xs : List Int) (x : Int) : seenL (xs ++ [x]) = addNew (seenL xs) x := by unfold seenL; rw [List.foldl_append]; rfl
theorem partsL_down (r : List Heap1) : (partsL r).Pairwise (· ≥ ·) := down_srtR _
theorem mxC_snoc (r : List Heap1) (h : Heap1) (x : Int) : mxC (r ++ [h]) x = max (mxC r x) (h.count x) := by
  apply Nat.le_antisymm
  · refine mxC_le fun g hg => ?_
    rcases List.mem_append.mp hg with hg | hg
    · have := mxC_ge hg x; omega
    · rw [List.mem_singleton.mp hg]; omega
  · have : mxC r x ≤ mxC (r ++ [h]) x := mxC_le fun g hg => mxC_ge (by simp [hg]) x
    have := mxC_ge (r := r ++ [h]) (h := h) (by simp) x
    omega
theorem mxC_at : ∀ {r : List Heap1} (hr : r ≠ []) (x : Int), ∃ g ∈ r, g.count x = mxC r x
  | [], hr, _ => absurd rfl hr
  | [g], _, x => ⟨g, by simp, by unfold mxC; simp⟩
  | g :: h :: r, _, x => by
    obtain ⟨a, ha, e2⟩ := mxC_at (r := h :: r) (by simp) x
    have e : mxC (g :: h :: r) x = max (g.count x) (mxC (h :: r) x) := rfl
    rcases Nat.le_total (g.count x) (mxC (h :: r) x) with q | q
    · exact ⟨a, by simp only [List.mem_cons] at ha ⊢; exact .inr ha, by omega⟩
    · exact ⟨g, by simp, by omega⟩
theorem mxC_mxL {r : List Heap1} (hr : r ≠ []) (x : Int) : mxL (r.map fun h => ((h.count x : Nat) : Int)) = (mxC r x : Nat) := by
  symm
  refine mxL_eq ?_ fun y hy => ?_
  · obtain ⟨g, hg, e⟩ := mxC_at hr x
    exact List.mem_map.mpr ⟨g, hg, by rw [e]⟩
  · obtain ⟨g, hg, rfl⟩ := List.mem_map.mp hy
    have := mxC_ge hg x
    omega
theorem repL_down (f : Int → Nat) : ∀ {ps : List Int}, ps.Pairwise (· ≥ ·) → (repL f ps).Pairwise (· ≥ ·)
  | [], _ => List.Pairwise.nil
  | p :: ps, h => by
    have hp := List.pairwise_cons.mp h
    show (List.replicate (f p) p ++ repL f ps).Pairwise _
    refine List.pairwise_append.mpr ⟨List.pairwise_replicate.mpr (.inr (Int.le_refl _)), repL_down f hp.2, fun a ha b hb => ?_⟩
    rw [(List.mem_replicate.mp ha).2]
    obtain ⟨c, hc, hb⟩ := List.mem_flatMap.mp hb
    rw [(List.mem_replicate.mp hb).2]
    exact hp.1 c hc
theorem repL_snoc (f : Int → Nat) (ps : List Int) (x : Int) : repL f (ps ++ [x]) = repL f ps ++ List.replicate (f x) x := by
  unfold repL; rw [List.flatMap_append]; simp
theorem joinL_down (r : List Heap1) : (joinL r).Pairwise (· ≥ ·) := repL_down _ (partsL_down r)
theorem joinL_eq {r : List Heap1} {xs : Heap1} (h1 : xs.Pairwise (· ≥ ·)) (h2 : ∀ x, xs.count x = mxC r x) : xs = joinL r :=
  down_unique (List.perm_iff_count.mpr fun x => by rw [h2, joinL_count]) h1 (joinL_down r)
theorem joinL_srtR {r : List Heap1} {xs : List Int} (h2 : ∀ x, xs.count x = mxC r x) : (srt xs).reverse = joinL r :=
  joinL_eq (down_srtR xs) fun x => by rw [(perm_srtR xs).count_eq, h2]
theorem okJ.pick {r : List Heap1} {c : List Int} (o : okJ r) (h : ∀ j ∈ c, 0 ≤ j ∧ j < r.length) (hc : c.length ≤ 1000) : okJ (pickC r c) :=
  ⟨by unfold pickC; rw [List.length_map]; exact hc, fun g hg => o.2 g (pickC_mem h g hg)⟩
/-- the part at a place, as the walk asks for it -/
theorem getK_rule {r : List Heap1} {j : Int} {k : D → Prop} (h0 : 0 ≤ j) (h1 : j < r.length) (q : k (hD (r.getD j.toNat []))) : getK (atI (r.map hD) j) k := by
  have e : j.toNat < r.length := by omega
  rw [List.getD_eq_getElem?_getD, List.getElem?_eq_getElem e] at q
  exact getK_nat j.toNat (by omega) e q
end Dt

/-! # Dt: pairs, by plain lists -/
namespace Dt
open PySem PySem.Spec PyProof.Rows L2
abbrev hpD (p : Heap1 × Heap1) : D := .tuple [hD p.1, hD p.2]
def cPr : Cod (Heap1 × Heap1) := cP cHeap cHeap
theorem good_pr : Good cPr 2 := good_heap.P good_heap
def prK (d : D) (k : Heap1 × Heap1 → Prop) : Prop := cPr.K d k
theorem prK_of {d : D} {k : Heap1 × Heap1 → Prop} (h : prK d k) : ∃ a, d = hpD a ∧ k a := Cod.K_of h
theorem prK_in {p : Heap1 × Heap1} {k : Heap1 × Heap1 → Prop} (q : k p) : prK (hpD p) k := by
  show cPr.K (cPr.enc p) k
  rw [Cod.K_enc]; exact q
theorem prK_in2 {a b : Heap1} {k : Heap1 × Heap1 → Prop} (q : k (a, b)) : prK (.tuple [hD a, hD b]) k := prK_in (p := (a, b)) q
def lprK (d : D) (k : List (Heap1 × Heap1) → Prop) : Prop := (cL cPr).K d k
theorem lprK_in {p : List (Heap1 × Heap1)} {k : List (Heap1 × Heap1) → Prop} (q : k p) : lprK (.list (p.map hpD)) k := by
  show (cL cPr).K ((cL cPr).enc p) k
  rw [Cod.K_enc]; exact q
theorem sh_pr (p : Heap1 × Heap1) : SeqAt.shaped (hpD p) = true := good_pr.sh (by decide) p
theorem sh_lpr (p : List (Heap1 × Heap1)) : SeqAt.shaped (.list (p.map hpD)) = true := good_pr.L.sh (by decide) p
theorem eqv_pr (a b : Heap1 × Heap1) : PyData.eqv (hpD a) (hpD b) = decide (a = b) := good_pr.eqv a b
theorem eqvT_P {a b : Heap1 × Heap1} (h : a = b) : PyData.eqv (hpD a) (hpD b) = true := by rw [eqv_pr, decide_eq_true h]
theorem noL_pr (p : Heap1 × Heap1) : noL (hpD p) = true := by
  show (noL (hD p.1) && (noL (hD p.2) && true)) = true
  rw [noL_heap, noL_heap]; rfl
theorem noLs_prs (r : List (Heap1 × Heap1)) : noLs (r.map hpD) = true := noLs_map noL_pr r
theorem zip_same {α : Type} : ∀ {xs : List α} {p : α × α}, p ∈ xs.zip xs → p.1 = p.2
  | [], _, h => by simp at h
  | x :: xs, p, h => by
    rw [List.zip_cons_cons] at h
    rcases List.mem_cons.mp h with rfl | h
    · rfl
    · exact zip_same h
theorem zip_mem {α : Type} : ∀ {xs : List α} {p : α × α}, p ∈ xs.zip xs → p.1 ∈ xs
  | [], _, h => by simp at h
  | x :: xs, p, h => by
    rw [List.zip_cons_cons] at h
    rcases List.mem_cons.mp h with rfl | h
    · exact List.mem_cons_self
    · exact List.mem_cons_of_mem _ (zip_mem h)
theorem eqv_str (s : Str) : PyData.eqv (.str s) (.str s) = true := by simp [PyData.eqv]
theorem brNL {α : Type} {xs : List α} {A B : Prop} (h1 : xs = [] → A) (h2 : xs ≠ [] → B) : ((!(!xs.isEmpty)) = true → A) ∧ ((!(!xs.isEmpty)) = false → B) := by
  cases xs with
  | nil => exact ⟨fun _ => h1 rfl, fun z => by simp at z⟩
  | cons x xs => exact ⟨fun z => by simp at z, fun _ => h2 (by simp)⟩
theorem brNLm {α β : Type} {f : α → β} {xs : List α} {A B : Prop} (h1 : xs = [] → A) (h2 : xs ≠ [] → B) : ((!(!(xs.map f).isEmpty)) = true → A) ∧ ((!(!(xs.map f).isEmpty)) = false → B) := brNL (fun h => h1 (List.map_eq_nil_iff.mp h)) fun h => h2 fun e => h (by rw [e]; rfl)
def okSame : Nat → D → Prop
  | 0, _ => False
  | k + 1, .list ds => ∀ d ∈ ds, okSame k d
  | k + 1, .tuple ds => ∀ d ∈ ds, okSame k d
  | _ + 1, .str s => SeqAt.shaped (.str s) = true
  | _ + 1, .dict _ => False
  | _ + 1, _ => True
theorem okS_map {α : Type} {f : α → D} {k : Nat} {xs : List α} (h : ∀ x, okSame k (f x)) : okSame (k + 1) (.list (xs.map f)) := by
  intro d hd
  obtain ⟨x, _, rfl⟩ := List.mem_map.mp hd
  exact h x
theorem okS_mapT {α : Type} {f : α → D} {k : Nat} {xs : List α} (h : ∀ x, okSame k (f x)) : okSame (k + 1) (.tuple (xs.map f)) := by
  intro d hd
  obtain ⟨x, _, rfl⟩ := List.mem_map.mp hd
  exact h x
theorem okS_nil {k : Nat} : okSame (k + 1) (.tuple []) := fun d hd => absurd hd (by simp)
theorem okS_nilL {k : Nat} : okSame (k + 1) (.list []) := fun d hd => absurd hd (by simp)
theorem okS_cons {k : Nat} {d : D} {ds : List D} (h : okSame k d) (hs : okSame (k + 1) (.tuple ds)) : okSame (k + 1) (.tuple (d :: ds)) := by
  intro e he
  rcases List.mem_cons.mp he with rfl | he
  · exact h
  · exact hs e he
theorem okS_consL {k : Nat} {d : D} {ds : List D} (h : okSame k d) (hs : okSame (k + 1) (.list ds)) : okSame (k + 1) (.list (d :: ds)) := by
  intro e he
  rcases List.mem_cons.mp he with rfl | he
  · exact h
  · exact hs e he
end Dt

/-! # Dt: polynomials, by plain lists -/
namespace Dt
open PySem PySem.Spec PyProof.Rows L2
theorem mulOk_small {i j : Int} (h1 : i.natAbs < wideB) (h2 : j.natAbs < wideB) : mulOk i j := .inr (.inr ⟨h1, h2⟩)
theorem fig_small {i : Int} (h1 : -(10 ^ 70) ≤ i) (h2 : i ≤ 10 ^ 70) : i.natAbs < wideB := by
  have h : i.natAbs ≤ 10 ^ 70 := by omega
  exact Nat.lt_of_le_of_lt h (by rw [wideB_eq]; decide +kernel)
theorem mulOk_fig {i j : Int} (h1 : -(10 ^ 70) ≤ i) (h2 : i ≤ 10 ^ 70) (h3 : -(10 ^ 70) ≤ j) (h4 : j ≤ 10 ^ 70) : mulOk i j := mulOk_small (fig_small h1 h2) (fig_small h3 h4)
theorem putC_own0 (c0 c : C) (r : Rho) : putC (some (.own c0) :: r) 0 c = some (.own c) :: r := rfl
theorem putC_lent0 (a : Addr) (c0 c : C) (r : Rho) : putC (some (.lent a c0) :: r) 0 c = some (.lent a c) :: r := rfl
theorem putC_succ (s : Option S) (r : Rho) (j : Nat) (c : C) : putC (s :: r) (j + 1) c = s :: putC r j c := by
  unfold putC
  rw [List.getElem?_cons_succ]
  rcases r[j]? with _ | _ | x
  · rfl
  · rfl
  · cases x <;> rfl
theorem wipeR_nil (ρ : Rho) : wipeR ρ [] = ρ := rfl
theorem wipeR_cons (ρ : Rho) (v : Nat) (vs : List Nat) : wipeR ρ (v :: vs) = (wipeR ρ vs).set v none := rfl
theorem backR_nil (ρ0 ρ : Rho) : backR ρ0 ρ [] = ρ := rfl
theorem backR_cons (ρ0 ρ : Rho) (v : Nat) (vs : List Nat) : backR ρ0 ρ (v :: vs) = (backR ρ0 ρ vs).set v (keepD ρ0[v]?) := rfl
theorem keepD_none : keepD none = none := rfl
theorem keepD_free : keepD (some none) = none := rfl
theorem keepD_d (d : D) : keepD (some (some (.d d))) = some (.d d) := rfl
theorem keepD_own (c : C) : keepD (some (some (.own c))) = none := rfl
theorem keepD_lent (a : Addr) (c : C) : keepD (some (some (.lent a c))) = none := rfl
theorem setsD_nil (ρ : Rho) (l : List D) : setsD ρ [] l = ρ := by cases l <;> rfl
theorem setsD_cons (ρ : Rho) (i : Nat) (is : List Nat) (d : D) (l : List D) : setsD ρ (i :: is) (d :: l) = setsD (ρ.set i (some (.d d))) is l := rfl
end Dt

/-! # Dt: stores of rows -/
namespace Dt
open PySem PySem.Spec PyProof.Rows L2
def oiD : Option Int → D | none => .none | some i => .int i
def cOi : Cod (Option Int) := ⟨oiD, fun d => match d with | .none => some none | .int i => some (some i) | _ => none, fun a => by cases a <;> rfl, fun d a h => by
  cases d with
  | none => cases h; rfl
  | int i => cases h; rfl
  | _ => cases h⟩
def oiK (d : D) (k : Option Int → Prop) : Prop := cOi.K d k
theorem oiK_in {m : Option Int} {k : Option Int → Prop} (h : k m) : oiK (oiD m) k := by
  show cOi.K (cOi.enc m) k
  rw [Cod.K_enc]
  exact h
theorem oiK_none {k : Option Int → Prop} (h : k none) : oiK .none k := oiK_in (m := none) h
theorem oiK_int {i : Int} {k : Option Int → Prop} (h : k (some i)) : oiK (.int i) k := oiK_in (m := some i) h
abbrev rowD (p : Int × Option Int) : D := .tuple [.int p.1, oiD p.2]
def cRow : Cod (Int × Option Int) := cP cInt cOi
abbrev stD (s : List (Int × Option Int)) : D := .tuple (s.map rowD)
def stK (d : D) (k : List (Int × Option Int) → Prop) : Prop := (cT cRow).K d k
theorem stK_in {s : List (Int × Option Int)} {k : List (Int × Option Int) → Prop} (h : k s) : stK (stD s) k := by
  show (cT cRow).K ((cT cRow).enc s) k
  rw [Cod.K_enc]
  exact h
end Dt

/-! # Dt: numbers by places, as functions -/
namespace Dt
open PySem PySem.Spec PyProof.Rows L2
/-- the sum over two parts of a number -/
def cv (f g : Nat → Int) (n : Nat) : Int := ((List.range (n + 1)).map fun j => f j * g (n - j)).sum
/-- what a store lets be taken of a part -/
def lkS (s : List (Int × Option Int)) (x : Int) : Option (Option Int) := (s.find? fun r => decide (r.1 = x)).map (·.2)
def okX (s : List (Int × Option Int)) (h : List Int) (x : Int) : Bool := match lkS s x with | none => false | some none => true | some (some m) => decide ((h.count x : Int) ≤ m)
theorem heapK_nil' {k : Heap1 → Prop} (q : k []) : heapK (.tuple []) k := heapK_in (h := []) q
end Dt

/-! # Dt: rows as functions; five-cornered numbers -/
namespace Dt
open PySem PySem.Spec PyProof.Rows L2
def mv (a : Nat) (f : Nat → Int) (n : Nat) : Int := if a ≤ n then f (n - a) else 0
/-- the product of 1 less x to the powers s+1 .. s+d -/
def pr (s : Nat) : Nat → Nat → Int
  | 0 => dl
  | d + 1 => sh (s + d + 1) (pr s d)
end Dt

/-! # Dt: rules that are made -/
namespace Dt
open PySem PySem.Spec PyProof.Rows L2
theorem rep_map (n : Nat) (x : Int) : (List.replicate n [PyData.int x]).flatten = (List.replicate n x).map PyData.int := by
  rw [List.flatten_replicate_singleton, List.map_replicate]
end Dt

/-! # Dt: two rules made of lanes match -/
namespace Dt
open PySem PySem.Spec PyProof.Rows L2
theorem join_app {α : Type} (c : List α) (f g : α → Heap1) (h : ∀ x, (∀ j ∈ c, (f j).count x = 0) ∨ (∀ j ∈ c, (g j).count x = 0)) :
    (joinL (c.map fun j => f j ++ g j)).sum = (joinL (c.map f)).sum + (joinL (c.map g)).sum := by
  rw [← List.sum_append]
  refine perm_sum (List.perm_iff_count.mpr fun x => ?_)
  rw [List.count_append, joinL_count, joinL_count, joinL_count]
  have hle : ∀ {u : α → Heap1} {n : Nat}, (∀ j ∈ c, (u j).count x ≤ n) → mxC (c.map u) x ≤ n := fun hu => mxC_le fun w hw => by
    obtain ⟨j, hj, rfl⟩ := List.mem_map.mp hw
    exact hu j hj
  have hge : ∀ {u : α → Heap1} {j : α}, j ∈ c → (u j).count x ≤ mxC (c.map u) x := fun hj => mxC_ge (List.mem_map_of_mem hj) x
  rcases h x with h | h
  · have e0 : mxC (c.map f) x ≤ 0 := hle fun j hj => by rw [h j hj]; exact Nat.le_refl _
    have e1 : mxC (c.map fun j => f j ++ g j) x ≤ mxC (c.map g) x := hle fun j hj => by
      rw [List.count_append, h j hj, Nat.zero_add]; exact hge hj
    have e2 : mxC (c.map g) x ≤ mxC (c.map fun j => f j ++ g j) x := hle fun j hj => by
      have := hge (u := fun j => f j ++ g j) hj
      rw [List.count_append] at this
      omega
    omega
  · have e0 : mxC (c.map g) x ≤ 0 := hle fun j hj => by rw [h j hj]; exact Nat.le_refl _
    have e1 : mxC (c.map fun j => f j ++ g j) x ≤ mxC (c.map f) x := hle fun j hj => by
      rw [List.count_append, h j hj, Nat.add_zero]; exact hge hj
    have e2 : mxC (c.map f) x ≤ mxC (c.map fun j => f j ++ g j) x := hle fun j hj => by
      have := hge (u := fun j => f j ++ g j) hj
      rw [List.count_append] at this
      omega
    omega
def zapp (r s : List Heap1) : List Heap1 := (r.zip s).map fun p => p.1 ++ p.2
theorem zapp_len {r s : List Heap1} (h : r.length = s.length) : (zapp r s).length = r.length := by unfold zapp; simp [h]
theorem zapp_get {r s : List Heap1} (h : r.length = s.length) {j : Nat} (hj : j < r.length) : (zapp r s).getD j [] = r.getD j [] ++ s.getD j [] := by
  unfold zapp
  have hs : j < s.length := by omega
  have hz : j < (r.zip s).length := by rw [List.length_zip]; omega
  rw [List.getD_eq_getElem?_getD, List.getElem?_map, List.getElem?_eq_getElem hz, List.getD_eq_getElem?_getD, List.getD_eq_getElem?_getD, List.getElem?_eq_getElem hj, List.getElem?_eq_getElem hs]
  simp
theorem zapp_mem {r s : List Heap1} {g : Heap1} (h : g ∈ zapp r s) : ∃ a ∈ r, ∃ b ∈ s, g = a ++ b := by
  unfold zapp at h
  obtain ⟨p, hp, rfl⟩ := List.mem_map.mp h
  exact ⟨p.1, (List.of_mem_zip hp).1, p.2, (List.of_mem_zip hp).2, rfl⟩
theorem jS_zapp {r s : List Heap1} (hl : r.length = s.length) (hd : ∀ x, (∀ a ∈ r, x ∉ a) ∨ (∀ b ∈ s, x ∉ b)) {c : List Int} (hc : okC r.length c) : jS (zapp r s) c = jS r c + jS s c := by
  unfold jS pickC
  have e : (c.map fun j => (zapp r s).getD j.toNat []) = c.map fun j => r.getD j.toNat [] ++ s.getD j.toNat [] := List.map_congr_left fun j hj => zapp_get hl (by have := hc j hj; omega)
  rw [e]
  refine join_app c _ _ fun x => ?_
  have mem : ∀ {q : List Heap1} {j : Int}, j ∈ c → q.length = r.length → q.getD j.toNat [] ∈ q := fun {q j} hj hq => by
    have hlt : j.toNat < q.length := by have := hc j hj; omega
    rw [List.getD_eq_getElem?_getD, List.getElem?_eq_getElem hlt]
    exact List.getElem_mem hlt
  rcases hd x with h | h
  · exact .inl fun j hj => List.count_eq_zero.mpr (h _ (mem hj rfl))
  · exact .inr fun j hj => List.count_eq_zero.mpr (h _ (mem hj hl.symm))
def topV (v : List Nat) (c : List Int) : Nat := (c.map fun j => v.getD j.toNat 0).foldr max 0
theorem topV_ge {v : List Nat} {c : List Int} {j : Int} (h : j ∈ c) : v.getD j.toNat 0 ≤ topV v c := by
  unfold topV
  induction c with
  | nil => cases h
  | cons k c ih =>
    rw [List.map_cons, List.foldr_cons]
    rcases List.mem_cons.mp h with rfl | h
    · omega
    · have := ih h; omega
theorem topV_at : ∀ (v : List Nat) (c : List Int), topV v c = 0 ∨ ∃ j ∈ c, topV v c = v.getD j.toNat 0
  | v, [] => .inl rfl
  | v, k :: c => by
    have e : topV v (k :: c) = max (v.getD k.toNat 0) (topV v c) := rfl
    rcases Nat.le_total (v.getD k.toNat 0) (topV v c) with h | h
    · rw [e, Nat.max_eq_right h]
      rcases topV_at v c with z | ⟨j, hj, z⟩
      · exact .inl z
      · exact .inr ⟨j, by simp [hj], z⟩
    · rw [e, Nat.max_eq_left h]
      exact .inr ⟨k, by simp, rfl⟩
theorem lane_join {f : Nat → Heap1} (L : LaneF f) (v : List Nat) {c : List Int} (hc : okC v.length c) : joinL (pickC (v.map f) c) = f (topV v c) := by
  have e : pickC (v.map f) c = c.map fun j => f (v.getD j.toNat 0) := List.map_congr_left fun j hj => by
    have hlt : j.toNat < v.length := by have := hc j hj; omega
    simp [List.getD_eq_getElem?_getD, hlt]
  symm
  refine joinL_eq (L.down _) fun x => ?_
  rw [e]
  refine Nat.le_antisymm ?_ (mxC_le fun w hw => ?_)
  · rcases topV_at v c with h | ⟨j, hj, h⟩
    · rw [h, L.nil]; simp
    · rw [h]
      exact mxC_ge (r := c.map fun j => f (v.getD j.toNat 0)) (List.mem_map.mpr ⟨j, hj, rfl⟩) x
  · obtain ⟨j, hj, rfl⟩ := List.mem_map.mp hw
    exact L.mono _ _ _ (topV_ge hj)
theorem lane_sum {f g : Nat → Heap1} (F : LaneF f) (G : LaneF g) {v : List Nat} {n : Nat} (hv : ∀ x ∈ v, x ≤ n) (h : ∀ a, a ≤ n → (f a).sum = (g a).sum) {c : List Int} (hc : okC v.length c) : jS (v.map f) c = jS (v.map g) c := by
  unfold jS
  rw [lane_join F v hc, lane_join G v hc]
  refine h _ ?_
  rcases topV_at v c with z | ⟨j, hj, z⟩
  · omega
  · rw [z]
    have hlt : j.toNat < v.length := by have := hc j hj; omega
    rw [List.getD_eq_getElem?_getD, List.getElem?_eq_getElem hlt]
    exact hv _ (List.getElem_mem hlt)
/-! what the lanes' loop keeps -/
structure LaneI (m : Nat) (b : Nat) (ones others : List Heap1) (ls rs : List Int) : Prop where
  l1 : ones.length = m
  l2 : others.length = m
  p1 : ∀ a ∈ ones, ∀ x ∈ a, x ∈ ls
  p2 : ∀ a ∈ others, ∀ x ∈ a, x ∈ rs
  b1 : ∀ a ∈ ones, a.length ≤ b
  b2 : ∀ a ∈ others, a.length ≤ b
  v1 : ∀ x ∈ ls, 1 ≤ x ∧ x ≤ 8
  v2 : ∀ x ∈ rs, 1 ≤ x ∧ x ≤ 8
  same : ∀ c, okC m c → jS ones c = jS others c
  few : ∃ L R : List Int, (L.Nodup ∧ ∀ x ∈ L, x ∈ ls) ∧ (R.Nodup ∧ ∀ x ∈ R, x ∈ rs) ∧ (16 * L.length ≤ b ∧ 16 * R.length ≤ b) ∧ (∀ a ∈ ones, (a.length : Int) ≤ 2 * R.sum) ∧ ∀ a ∈ others, (a.length : Int) ≤ 2 * L.sum
/-- four unlike numbers up to 8 -/
theorem four_sum {xs : List Int} (h : xs.Nodup) (h8 : ∀ x ∈ xs, 1 ≤ x ∧ x ≤ 8) (hl : xs.length ≤ 4) : xs.sum ≤ 26 := by
  match xs, h, h8, hl with
  | [], _, _, _ => decide
  | [a], _, h8, _ => have := h8 a (by simp); simp; omega
  | [a, b], _, h8, _ => have := h8 a (by simp); have := h8 b (by simp); simp; omega
  | [a, b, c], _, h8, _ => have := h8 a (by simp); have := h8 b (by simp); have := h8 c (by simp); simp; omega
  | [a, b, c, d], h, h8, _ =>
    have := h8 a (by simp); have := h8 b (by simp); have := h8 c (by simp); have := h8 d (by simp)
    simp only [List.nodup_cons, List.mem_cons, List.not_mem_nil, or_false, not_or] at h
    simp only [List.sum_cons, List.sum_nil]
    omega
  | a :: b :: c :: d :: e :: r, _, _, hl => simp at hl
theorem LaneI.start (m : Nat) : LaneI m 0 (List.replicate m []) (List.replicate m []) [] [] :=
  ⟨by simp, by simp, fun a ha x hx => (by rw [List.eq_of_mem_replicate ha] at hx; cases hx), fun a ha x hx => (by rw [List.eq_of_mem_replicate ha] at hx; cases hx),
    fun a ha => by rw [List.eq_of_mem_replicate ha]; exact Nat.le_refl _, fun a ha => by rw [List.eq_of_mem_replicate ha]; exact Nat.le_refl _, by simp, by simp, fun _ _ => rfl,
    [], [], by simp, by simp, by simp, fun a ha => by rw [List.eq_of_mem_replicate ha]; decide, fun a ha => by rw [List.eq_of_mem_replicate ha]; decide⟩
theorem LaneI.step {m b : Nat} {ones others : List Heap1} {ls rs : List Int} (I : LaneI m b ones others ls rs) {f g : Nat → Heap1} (F : LaneF f) (G : LaneF g) {v : List Nat} (hvl : v.length = m) (hv : ∀ x ∈ v, x ≤ 2)
    (hs : ∀ a, a ≤ 2 → (f a).sum = (g a).sum) {ml mr : List Int} (hf : ∀ a, ∀ x ∈ f a, x ∈ ml) (hg : ∀ a, ∀ x ∈ g a, x ∈ mr) (nl : ∀ x ∈ ml, x ∉ ls) (nr : ∀ x ∈ mr, x ∉ rs) (vl : ∀ x ∈ ml, 1 ≤ x ∧ x ≤ 8) (vr : ∀ x ∈ mr, 1 ≤ x ∧ x ≤ 8)
    (bf : ∀ a, a ≤ 2 → (f a).length ≤ 16) (bg : ∀ a, a ≤ 2 → (g a).length ≤ 16) {l r : Int} (hlm : l ∈ ml) (hrm : r ∈ mr) (cf : ∀ a, a ≤ 2 → ((f a).length : Int) ≤ 2 * r) (cg : ∀ a, a ≤ 2 → ((g a).length : Int) ≤ 2 * l) : LaneI m (b + 16) (zapp ones (v.map f)) (zapp others (v.map g)) (ls ++ ml) (rs ++ mr) := by
  have e1 : ones.length = (v.map f).length := by rw [I.l1]; simp [hvl]
  have e2 : others.length = (v.map g).length := by rw [I.l2]; simp [hvl]
  have few : ∃ L R : List Int, (L.Nodup ∧ ∀ x ∈ L, x ∈ ls ++ ml) ∧ (R.Nodup ∧ ∀ x ∈ R, x ∈ rs ++ mr) ∧ (16 * L.length ≤ b + 16 ∧ 16 * R.length ≤ b + 16) ∧ (∀ a ∈ zapp ones (v.map f), (a.length : Int) ≤ 2 * R.sum) ∧ ∀ a ∈ zapp others (v.map g), (a.length : Int) ≤ 2 * L.sum := by
    obtain ⟨L, R, ⟨k1, k2⟩, ⟨k3, k4⟩, ⟨k5, k6⟩, k7, k8⟩ := I.few
    refine ⟨l :: L, r :: R, ⟨List.nodup_cons.mpr ⟨fun z => nl l hlm (k2 l z), k1⟩, fun x hx => ?_⟩, ⟨List.nodup_cons.mpr ⟨fun z => nr r hrm (k4 r z), k3⟩, fun x hx => ?_⟩, ⟨by rw [List.length_cons]; omega, by rw [List.length_cons]; omega⟩, fun a ha => ?_, fun a ha => ?_⟩
    · rcases List.mem_cons.mp hx with rfl | hx
      · exact List.mem_append_right _ hlm
      · exact List.mem_append_left _ (k2 x hx)
    · rcases List.mem_cons.mp hx with rfl | hx
      · exact List.mem_append_right _ hrm
      · exact List.mem_append_left _ (k4 x hx)
    · obtain ⟨p, hp, q, hq, rfl⟩ := zapp_mem ha
      obtain ⟨u, hu, rfl⟩ := List.mem_map.mp hq
      have := k7 p hp
      have := cf u (hv u hu)
      rw [List.length_append, List.sum_cons]
      push_cast
      omega
    · obtain ⟨p, hp, q, hq, rfl⟩ := zapp_mem ha
      obtain ⟨u, hu, rfl⟩ := List.mem_map.mp hq
      have := k8 p hp
      have := cg u (hv u hu)
      rw [List.length_append, List.sum_cons]
      push_cast
      omega
  refine ⟨by rw [zapp_len e1, I.l1], by rw [zapp_len e2, I.l2], fun a ha x hx => ?_, fun a ha x hx => ?_, fun a ha => ?_, fun a ha => ?_, fun x hx => ?_, fun x hx => ?_, fun c hc => ?_, few⟩
  · obtain ⟨p, hp, q, hq, rfl⟩ := zapp_mem ha
    obtain ⟨u, _, rfl⟩ := List.mem_map.mp hq
    rcases List.mem_append.mp hx with hx | hx
    · exact List.mem_append_left _ (I.p1 p hp x hx)
    · exact List.mem_append_right _ (hf u x hx)
  · obtain ⟨p, hp, q, hq, rfl⟩ := zapp_mem ha
    obtain ⟨u, _, rfl⟩ := List.mem_map.mp hq
    rcases List.mem_append.mp hx with hx | hx
    · exact List.mem_append_left _ (I.p2 p hp x hx)
    · exact List.mem_append_right _ (hg u x hx)
  · obtain ⟨p, hp, q, hq, rfl⟩ := zapp_mem ha
    obtain ⟨u, hu, rfl⟩ := List.mem_map.mp hq
    have := I.b1 p hp
    have := bf u (hv u hu)
    rw [List.length_append]; omega
  · obtain ⟨p, hp, q, hq, rfl⟩ := zapp_mem ha
    obtain ⟨u, hu, rfl⟩ := List.mem_map.mp hq
    have := I.b2 p hp
    have := bg u (hv u hu)
    rw [List.length_append]; omega
  · rcases List.mem_append.mp hx with hx | hx
    · exact I.v1 x hx
    · exact vl x hx
  · rcases List.mem_append.mp hx with hx | hx
    · exact I.v2 x hx
    · exact vr x hx
  · have d1 : ∀ x, (∀ a ∈ ones, x ∉ a) ∨ (∀ b ∈ v.map f, x ∉ b) := fun x => by
      by_cases h : x ∈ ml
      · exact .inl fun a ha hx => nl x h (I.p1 a ha x hx)
      · exact .inr fun b hb hx => by
          obtain ⟨u, _, rfl⟩ := List.mem_map.mp hb
          exact h (hf u x hx)
    have d2 : ∀ x, (∀ a ∈ others, x ∉ a) ∨ (∀ b ∈ v.map g, x ∉ b) := fun x => by
      by_cases h : x ∈ mr
      · exact .inl fun a ha hx => nr x h (I.p2 a ha x hx)
      · exact .inr fun b hb hx => by
          obtain ⟨u, _, rfl⟩ := List.mem_map.mp hb
          exact h (hg u x hx)
    rw [jS_zapp e1 d1 (by rw [I.l1]; exact hc), jS_zapp e2 d2 (by rw [I.l2]; exact hc), I.same c hc, lane_sum F G hv hs (by rw [hvl]; exact hc)]
/-- rows put in order join alike -/
def ordR (r : List Heap1) : List Heap1 := r.map fun a => (srt a).reverse
theorem jS_ord {r : List Heap1} {c : List Int} (hc : okC r.length c) : jS (ordR r) c = jS r c := by
  unfold jS
  have e : joinL (pickC (ordR r) c) = joinL (pickC r c) := joinL_eq (joinL_down _) fun x => by
    rw [joinL_count]
    have key : ∀ j ∈ c, ((ordR r).getD j.toNat []).count x = (r.getD j.toNat []).count x := fun j hj => by
      have hlt : j.toNat < r.length := by have := hc j hj; omega
      unfold ordR
      simp only [List.getD_eq_getElem?_getD, List.getElem?_map, List.getElem?_eq_getElem hlt, Option.map_some, Option.getD_some]
      exact (perm_srtR _).count_eq x
    unfold mxC pickC
    rw [List.map_map, List.map_map]
    congr 1
    exact List.map_congr_left key
  rw [e]
theorem LaneI.done {m b n : Nat} {ones others : List Heap1} {ls rs : List Int} (I : LaneI m b ones others ls rs) (hb : b ≤ 64) (hm : m ≤ n) : Mates n (ordR ones) (ordR others) := by
  obtain ⟨L, R, ⟨k1, k2⟩, ⟨k3, k4⟩, ⟨k5, k6⟩, k7, k8⟩ := I.few
  have s1 := four_sum k1 (fun x hx => I.v1 x (k2 x hx)) (by omega)
  have s2 := four_sum k3 (fun x hx => I.v2 x (k4 x hx)) (by omega)
  have side : ∀ {r : List Heap1} {ps : List Int}, (∀ a ∈ r, ∀ x ∈ a, x ∈ ps) → (∀ a ∈ r, a.length ≤ 60) → (∀ x ∈ ps, 1 ≤ x ∧ x ≤ 8) → ∀ a ∈ ordR r, isHeap a ∧ a.length ≤ 60 ∧ ∀ x ∈ a, x ≤ 64 := by
    intro r ps h1 h2 h3 a ha
    obtain ⟨u, hu, rfl⟩ := List.mem_map.mp ha
    have hx : ∀ x ∈ (srt u).reverse, 1 ≤ x ∧ x ≤ 8 := fun x hx => h3 x (h1 u hu x (mem_srtR.mp hx))
    exact ⟨⟨down_srtR u, fun x h => (hx x h).1⟩, by rw [len_srtR]; have := h2 u hu; omega, fun x h => by have := (hx x h).2; omega⟩
  refine ⟨by unfold ordR; rw [List.length_map, List.length_map, I.l1, I.l2], by unfold ordR; rw [List.length_map, I.l1]; exact hm, side I.p1 (fun a ha => by have := k7 a ha; omega) I.v1, side I.p2 (fun a ha => by have := k8 a ha; omega) I.v2, fun c hc => ?_⟩
  have hc : okC m c := by unfold ordR at hc; rw [List.length_map, I.l1] at hc; exact hc
  rw [jS_ord (by rw [I.l1]; exact hc), jS_ord (by rw [I.l2]; exact hc), I.same c hc]
/-! lists of lists of ints, as data -/
abbrev lD (r : List Int) : D := .list (r.map PyData.int)
def llK (d : D) (k : List Heap1 → Prop) : Prop := (cL (cL cInt)).K d k
theorem llK_of {d : D} {k : List Heap1 → Prop} (h : llK d k) : ∃ a : List Heap1, d = .list (a.map lD) ∧ k a := Cod.K_of h
theorem llK_in {r : List Heap1} {k : List Heap1 → Prop} (q : k r) : llK (.list (r.map lD)) k := by
  have e : llK (.list (r.map lD)) k = k r := (cL (cL cInt)).K_enc r k
  rw [e]; exact q
theorem fdOk {j : Int} (h0 : 0 < j) (h1 : j ≤ 1000000) : 0 < j ∧ j.natAbs < 2 ^ 8000 := by
  refine ⟨h0, Nat.lt_of_lt_of_le (m := 2 ^ 20) (by omega) (Nat.pow_le_pow_right (by decide) (by decide))⟩
theorem LaneI.weak {m b : Nat} {ones others : List Heap1} {ls rs : List Int} (I : LaneI m b ones others ls rs) {b' : Nat} (h : b ≤ b') : LaneI m b' ones others ls rs :=
  ⟨I.l1, I.l2, I.p1, I.p2, fun a ha => Nat.le_trans (I.b1 a ha) h, fun a ha => Nat.le_trans (I.b2 a ha) h, I.v1, I.v2, I.same, I.few.imp fun L h1 => h1.imp fun R h2 => ⟨h2.1, h2.2.1, ⟨by have := h2.2.2.1; omega, by have := h2.2.2.1; omega⟩, h2.2.2.2⟩⟩
theorem start_rows (n : Nat) : ((List.range n).map fun _ => lD []) = (List.replicate n []).map lD := by
  rw [List.map_replicate, List.map_const', List.length_range]
/-- one lane more, or none -/
theorem LaneI.lane {m b : Nat} {ones others : List Heap1} {ls rs : List Int} (I : LaneI m b ones others ls rs) {l r : Int} {s : Bool} {f g : Nat → Heap1} (L : LaneP l r s f g) {v : List Int} (hvl : v.length = m) (hv : ∀ x ∈ v, 0 ≤ x ∧ x < 3)
    (hl : 1 ≤ l ∧ l ≤ 8) (hr : 1 ≤ r ∧ r ≤ 8) (nl : l ∉ ls) (nr : r ∉ rs) (ns : s = true → l ∉ rs) : LaneI m (b + 16) (zapp ones (v.map fun x => f x.toNat)) (zapp others (v.map fun x => g x.toNat)) (ls ++ [l]) (rs ++ (r :: if s then [l] else [])) := by
  have e : ∀ u : Nat → Heap1, (v.map fun x => u x.toNat) = (v.map Int.toNat).map u := fun u => by rw [List.map_map]; rfl
  rw [e f, e g]
  refine I.step L.F L.G (by rw [List.length_map, hvl]) (fun x hx => ?_) L.sum (fun a x hx => by rw [L.mf a x hx]; simp) (fun a x hx => ?_) (fun x hx => ?_) (fun x hx => ?_) (fun x hx => ?_) (fun x hx => ?_) L.bf L.bg (l := l) (r := r) (by simp) (by simp) L.cf L.cg
  · obtain ⟨y, hy, rfl⟩ := List.mem_map.mp hx
    have := hv y hy
    omega
  · rcases L.mg a x hx with z | ⟨z1, z2⟩
    · rw [z]; simp
    · rw [z1, z2]; simp
  · rw [List.mem_singleton.mp hx]; exact nl
  · rcases List.mem_cons.mp hx with rfl | hx
    · exact nr
    · cases s with
      | false => cases hx
      | true => rw [List.mem_singleton.mp hx]; exact ns rfl
  · rw [List.mem_singleton.mp hx]; exact hl
  · rcases List.mem_cons.mp hx with rfl | hx
    · exact hr
    · cases s with
      | false => cases hx
      | true => rw [List.mem_singleton.mp hx]; exact hl
theorem zip_lD (r s : List Heap1) : zipD (r.map lD) (s.map lD) = (r.zip s).map fun p => PyData.tuple [lD p.1, lD p.2] := zipD_map lD lD r s
theorem zapp_map (r s : List Heap1) : ((r.zip s).map fun p => lD (p.1 ++ p.2)) = (zapp r s).map lD := by unfold zapp; rw [List.map_map]; rfl
end Dt

/-! # Dt: signed pairs -/
namespace Dt
open PySem PySem.Spec PyProof.Rows L2
def pairG (r : List Heap1) (h : Heap1) : Int → List Int → Bool
  | _, [] => true
  | last, n :: c => decide (last < n) && (decide (n < (r.length : Int)) && (liesIn (r.getD n.toNat []) h && pairG r h n c))
def isPairB (r : List Heap1) (p : Heap1 × Heap1) : Bool := pairG r p.1 (-1) p.2
theorem pairG_iff {r : List Heap1} {h : Heap1} : ∀ {c : List Int} {last : Int}, pairG r h last c = true ↔ (last :: c).Pairwise (· < ·) ∧ ∀ n ∈ c, n < (r.length : Int) ∧ liesIn (r.getD n.toNat []) h = true
  | [], last => by simp [pairG]
  | n :: c, last => by
    rw [pairG, Bool.and_eq_true, Bool.and_eq_true, Bool.and_eq_true, decide_eq_true_iff, decide_eq_true_iff, pairG_iff, List.forall_mem_cons]
    constructor
    · rintro ⟨h1, h2, h3, h4, h5⟩
      refine ⟨List.pairwise_cons.mpr ⟨fun x hx => ?_, h4⟩, ⟨h2, h3⟩, h5⟩
      rcases List.mem_cons.mp hx with rfl | hx
      · exact h1
      · have := (List.pairwise_cons.mp h4).1 x hx; omega
    · rintro ⟨h14, ⟨h2, h3⟩, h5⟩
      obtain ⟨h1, h4⟩ := List.pairwise_cons.mp h14
      exact ⟨h1 n (by simp), h2, h3, h4, h5⟩
theorem isPair_iff {r : List Heap1} {p : Heap1 × Heap1} : isPairB r p = true ↔ PairP r p := by
  unfold isPairB
  rw [pairG_iff, List.pairwise_cons]
  constructor
  · rintro ⟨⟨h1, h2⟩, h3⟩
    exact ⟨h2, fun n hn => ⟨by have := h1 n hn; omega, (h3 n hn).1⟩, fun n hn => (h3 n hn).2⟩
  · intro h
    exact ⟨⟨fun n hn => by have := (h.at' n hn).1; omega, h.up⟩, fun n hn => ⟨(h.at' n hn).2, h.lies n hn⟩⟩
def opD : Option (Heap1 × Heap1) → D
  | none => .none
  | some p => hpD p
end Dt

/-! # Dt: comprehensions whose element may raise -/
namespace Dt
open PySem PySem.Spec PyProof.Rows L2
theorem sh_LL (r : List Heap1) : SeqAt.shaped (.list (r.map lD)) = true := good_int.L.L.sh (by decide) r
theorem sh_L1 (r : List Int) : SeqAt.shaped (lD r) = true := good_int.L.sh (by decide) r
theorem eqv_LL (a b : List Heap1) : PyData.eqv (.list (a.map lD)) (.list (b.map lD)) = decide (a = b) := good_int.L.L.eqv a b
theorem eqvT_LL {a b : List Heap1} (h : a = b) : PyData.eqv (.list (a.map lD)) (.list (b.map lD)) = true := by rw [eqv_LL, decide_eq_true h]
end Dt

/-! # Dt: the rules of lanes and levels -/
namespace Dt
open PySem PySem.Spec PyProof.Rows L2
abbrev prI (p : Int × Int) : D := .tuple [.int p.1, .int p.2]
/-- lanes, in a list or a tuple -/
@[irreducible] def lanK (d : D) (k : List (Int × Int) → Prop) : Prop := ∃ ls : List (Int × Int), (d = .list (ls.map prI) ∨ d = .tuple (ls.map prI)) ∧ k ls
theorem lanK_in {ls : List (Int × Int)} {k : List (Int × Int) → Prop} (q : k ls) : lanK (.list (ls.map prI)) k := by unfold lanK; exact ⟨ls, .inl rfl, q⟩
theorem lanK_inT {ls : List (Int × Int)} {k : List (Int × Int) → Prop} (q : k ls) : lanK (.tuple (ls.map prI)) k := by unfold lanK; exact ⟨ls, .inr rfl, q⟩
/-- rows of levels, in a list or a tuple -/
@[irreducible] def rwK (d : D) (k : List Heap1 → Prop) : Prop := ∃ rs : List Heap1, (d = .list (rs.map hD) ∨ d = .tuple (rs.map hD)) ∧ k rs
theorem rwK_in {rs : List Heap1} {k : List Heap1 → Prop} (q : k rs) : rwK (.list (rs.map hD)) k := by unfold rwK; exact ⟨rs, .inl rfl, q⟩
theorem rwK_inT {rs : List Heap1} {k : List Heap1 → Prop} (q : k rs) : rwK (.tuple (rs.map hD)) k := by unfold rwK; exact ⟨rs, .inr rfl, q⟩
theorem good_ii : Good (cP cInt cInt) 1 := good_int.P good_int
theorem sh_lpI (r : List (Int × Int)) : SeqAt.shaped (.list (r.map prI)) = true := good_ii.L.sh (by decide) r
theorem eqvT_LPI {a b : List (Int × Int)} (h : a = b) : PyData.eqv (.list (a.map prI)) (.list (b.map prI)) = true := by
  have : PyData.eqv (.list (a.map prI)) (.list (b.map prI)) = decide (a = b) := good_ii.L.eqv a b
  rw [this, decide_eq_true h]
theorem noL_pI (p : Int × Int) : noL (prI p) = true := rfl
theorem noLs_pI (r : List (Int × Int)) : noLs (r.map prI) = true := noLs_map noL_pI r
end Dt

/-! # Dt: two rules side by side (class Beside): fields, methods, making -/
namespace Dt
open PySem PySem.Spec PyProof.Rows L2

/-! ### the rules of the kit, with exceptions told at the caller's slots -/
section
variable {X : Cx} {k : Nat} {f C : Addr} {fd : FuncData} {ps : List Str} {sp : Sp} {E : L2.St → XK} {x m : Str} {p pos apos : Pos} {e o : Expr} {es : List Expr} {ta : TE} {t : TA}
/-- an instance's method without arguments -/
def tMethS0 (C : Addr) (m : Str) (sp : Sp) (E : L2.St → XK) (ta : TE) : TE := fun σ H Q => ta σ H fun x H1 => ∃ a dx fs, x = .ref a ∧ H1 a = some (.ins C dx fs) ∧ fs.lookup m = none ∧ sp [x] H1 Q (E σ)
theorem pe_methS0 {pl : Sem Bool} (he : PE X o ta) (c : Cls X.K C) (hm : Meth X.K C m f) (F : FnOk X.prog X.w X.K X.mg X.base (L2.CX X.prog X.w) k f fd ps sp) (hr : Room k X.A) (hb : Binds X.K fd ps []) (hx : ∀ σ, PassesAt (L2.CX X.prog X.w) X σ (E σ))
    (ht : eval (.Call (.Attribute o m apos) [] [] pos) X.env = (do
      let ov ← eval o X.env
      standAt apos.atName
      let (f, first) ← holding [ov] (getMethod ov m pl)
      callWith pos f first (backTo pos (starEach [] X.env)) (backToKw pos (keywordEach [] X.env))) := by rfl) :
    PE X (.Call (.Attribute o m apos) [] [] pos) (tMethS0 C m sp E ta) where
  run pins s σ H Q I h := by
    refine PySem.W.methodCall_KW (pl := pl) (thn (he.run pins s σ H _ I h) ?_) ht
    rintro u s1 ⟨v, H1, I1, rv, a, dx, fs, rfl, e2, e3, q⟩
    obtain rfl : u = Value.ref a := rv
    exact getmeth_ok I1 e2 c hm e3 (PySem.W.callWith_K0 (first := [.ref a]) I1.kIn hm.kp (run_fnS (vs := [.ref a]) (us := [.ref a]) F hr hb (hx σ) I1 (.cons rfl .nil) q))
/-- a new instance, then its __init__ -/
def tMakeS (C : Addr) (sp : Sp) (E : L2.St → XK) (t : TA) : TE := fun σ H Q => t σ H fun vs H1 => ∀ x dx, H1 x = none → H1 dx = none → dx ≠ x →
  sp (.ref x :: vs) (upd (upd H1 dx (.own x)) x (.ins C dx [])) (fun v H2 => v = .non ∧ Q (.ref x) H2) (E σ)
theorem pe_makeS (M : Mk X.K C f) (F : FnOk X.prog X.w X.K X.mg X.base (L2.CX X.prog X.w) k f fd ps sp) (hr : Room (k + 1) X.A) (hg : Gl X x) (hm : X.mg x = some (.ref C)) (hb : Binds X.K fd ps []) (hx : ∀ σ, PassesAt (L2.CX X.prog X.w) X σ (E σ))
    (ha : PA X (e :: es) t) (hdb : (x == ("__debug__" : Str)) = false := by decide) (he : starEach (e :: es) X.env = (false, eval e X.env) :: starEach es X.env := by rfl) (hpl : (backTo pos (starEach es X.env)).any (·.1) = false := by rfl) :
    PE X (.Call (.Name x p) (e :: es) [] pos) (tMakeS C sp E t) where
  run pins s σ H Q I h := by
    refine wpAny_Call_Name_kw (ld_glob I hg hm ?_ hdb)
    refine PySem.W.callWith_K (h₀ := X.base) I.ok.mod.kin M.kp (thn (ha.run pos pins s σ H _ I h) ?_) he hpl
    rintro us s1 ⟨vs, H1, I1, r, q⟩
    refine ⟨I1.kIn, ?_⟩
    have q1 := q (s1.heap.objs.size + 1) s1.heap.objs.size (I1.hok.fresh (Nat.le_succ _)) (I1.hok.fresh (Nat.le_refl _)) (Nat.ne_of_lt (Nat.lt_succ_self _))
    have I2 := Inv.made (C := C) I1
    have r2 : Vals (V.ref (s1.heap.objs.size + 1) :: vs) (Value.ref (s1.heap.objs.size + 1) :: us) := .cons rfl r
    have hl : (Value.ref (s1.heap.objs.size + 1) :: us).length = ps.length := by rw [← r2.length]; exact F.len _ _ _ _ q1
    have bt := hb _ (Value.ref (s1.heap.objs.size + 1) :: us) I2.kIn (by rw [List.append_nil]; exact hl)
    rw [List.append_nil] at bt
    have run := F.run _ X.stack _ _ ⟨Value.ref (s1.heap.objs.size + 1) :: us, []⟩ _ _ _ (E σ) (hr.make C us []) (I2.env0.make C us []) bt r2 q1
    refine wpAny_call (make_map (f := f) I1.kIn M.makes M.init (beq_iff_eq.mp M.fn) (codeAny_mono run ?_))
    intro res s' hq
    cases res with
    | error e => exact hx σ pins _ _ e s' I2 hq
    | ok fl =>
      cases fl with
      | ret u =>
        obtain ⟨v, H', I3, rv, ev, q3⟩ := I2.after hq
        subst ev
        exact ⟨rv, V.ref _, H', I3, rfl, q3⟩
      | next => exact hq.elim
      | brk => exact hq.elim
      | cont => exact hq.elim
end

/-! ### the data -/
def besD (l r : D) : D := .dict [(.str "Beside", .none), (.str "left", l), (.str "right", r)]
@[irreducible] def besK (d : D) (k : D → D → Prop) : Prop := ∃ l r, d = besD l r ∧ k l r
theorem besK_in {l r : D} {k : D → D → Prop} (h : k l r) : besK (besD l r) k := by unfold besK; exact ⟨l, r, rfl, h⟩
theorem besK_of {d : D} {k : D → D → Prop} (h : besK d k) : ∃ l r, d = besD l r ∧ k l r := by unfold besK at h; exact h
theorem dd_bes {p : Pm} {I : Hp} {v : V} {l r : D} (h : Dd p I v (besD l r)) : ∃ a C dx v1 v2, v = .ref a ∧ p.mg "Beside" = some (.ref C) ∧ I a = some (.ins C dx [("left", v1), ("right", v2)]) ∧ Dd p I v1 l ∧ Dd p I v2 r := by
  unfold besD at h
  cases h with
  | ins h1 h2 h3 =>
    cases h3 with
    | cons r1 r2 =>
      cases r2 with
      | cons r3 r4 =>
        cases r4
        exact ⟨_, _, _, _, _, rfl, h1, h2, r1, r3⟩
theorem bes_dd {p : Pm} {I : Hp} {a C dx : Addr} {v1 v2 : V} {l r : D} (h1 : p.mg "Beside" = some (.ref C)) (h2 : I a = some (.ins C dx [("left", v1), ("right", v2)])) (r1 : Dd p I v1 l) (r2 : Dd p I v2 r) : Dd p I (.ref a) (besD l r) :=
  .ins h1 h2 (.cons r1 (.cons r2 .nil))

/-! ### readings -/
def dFldL (e : DE) : DE := fun ρ P PX => e ρ (fun o ρ1 => onlyd o fun d => besK d fun l _ => P (.d l) ρ1) PX
def dFldR (e : DE) : DE := fun ρ P PX => e ρ (fun o ρ1 => onlyd o fun d => besK d fun _ r => P (.d r) ρ1) PX
def dMeth (sp : DSp) (e : DE) : DE := fun ρ P PX => e ρ (fun o ρ1 => onlyd o fun d => besK d fun _ _ => sp [.d d] (fun o _ => P o ρ1) (fun x _ => PX x ρ1)) PX
def dMake (sp : DSp) (g : DA) : DE := dCall sp g
/-- what the class must have -/
structure BesT (K : PySem.W.Frag) (mg : Str → Option Value) (C : Addr) : Prop where
  at_ : mg "Beside" = some (.ref C)
  cls : Cls K C
  left : NoAttr K C "left"
  right : NoAttr K C "right"
section
variable {X : Cx} {G : V → Nat → Option Addr → Prop} {W : WX} {pos pos' apos : Pos} {a e : Expr} {es : List Expr} {g : DA} {k : Nat} {x m : Str} {f C : Addr} {fd : FuncData} {ps : List Str} {sp : DSp} {fe : DE}
theorem e_fldL (B : BesT X.K X.mg C) (he : PEd X G W e fe) (hb : attributeBase e "left" X.env (eval e X.env) = eval e X.env := by rfl) : PEd X G W (.Attribute e "left" pos) (dFldL fe) := PE.weak (pe_fld he hb) fun σ H Q q => by
  obtain ⟨F, I, ρ, P, PX, R, f1, kk, xx⟩ := q
  refine ⟨F, I, ρ, _, PX, R, f1, fun o ρ1 v F1 I1 H1 f2 s1 R1 r1 => ?_, xx⟩
  cases o with
  | d d =>
    obtain ⟨l, r, rfl, h⟩ := besK_of f2
    obtain ⟨a, C', dx, v1, v2, rfl, h1, h2, d1, d2⟩ := dd_bes r1
    have e1 : some (Value.ref C') = some (.ref C) := h1.symm.trans B.at_
    cases e1
    exact ⟨a, C, dx, _, v1, rfl, R1.sub _ _ h2, B.cls, B.left, rfl, kk (.d l) ρ1 v1 F1 I1 H1 h s1 R1 d1⟩
  | _ => exact f2.elim
theorem e_fldR (B : BesT X.K X.mg C) (he : PEd X G W e fe) (hb : attributeBase e "right" X.env (eval e X.env) = eval e X.env := by rfl) : PEd X G W (.Attribute e "right" pos) (dFldR fe) := PE.weak (pe_fld he hb) fun σ H Q q => by
  obtain ⟨F, I, ρ, P, PX, R, f1, kk, xx⟩ := q
  refine ⟨F, I, ρ, _, PX, R, f1, fun o ρ1 v F1 I1 H1 f2 s1 R1 r1 => ?_, xx⟩
  cases o with
  | d d =>
    obtain ⟨l, r, rfl, h⟩ := besK_of f2
    obtain ⟨a, C', dx, v1, v2, rfl, h1, h2, d1, d2⟩ := dd_bes r1
    have e1 : some (Value.ref C') = some (.ref C) := h1.symm.trans B.at_
    cases e1
    exact ⟨a, C, dx, _, v2, rfl, R1.sub _ _ h2, B.cls, B.right, rfl, kk (.d r) ρ1 v2 F1 I1 H1 h s1 R1 d2⟩
  | _ => exact f2.elim
theorem e_meth0 {pl : Sem Bool} (B : BesT X.K X.mg C) (hm : Meth X.K C m f) (hn1 : (m == ("left" : Str)) = false) (hn2 : (m == ("right" : Str)) = false) (F : FnOk X.prog X.w X.K X.mg X.base (L2.CX X.prog X.w) k f fd ps (spOf (pm X G) sp)) (tk : Takes X W) (hr : Room k X.A) (hb : Binds X.K fd ps []) (he : PEd X G W e fe)
    (ht : eval (.Call (.Attribute e m apos) [] [] pos) X.env = (do
      let ov ← eval e X.env
      standAt apos.atName
      let (f, first) ← holding [ov] (getMethod ov m pl)
      callWith pos f first (backTo pos (starEach [] X.env)) (backToKw pos (keywordEach [] X.env))) := by rfl) :
    PEd X G W (.Call (.Attribute e m apos) [] [] pos) (dMeth sp fe) := PE.weak (pe_methS0 (pl := pl) (E := WE W) he B.cls hm F hr hb (fun σ => passAt tk σ) ht) fun σ H Q q => by
  obtain ⟨F, I, ρ, P, PX, R, f1, kk, xx⟩ := q
  refine ⟨F, I, ρ, _, PX, R, f1, fun o ρ1 v F1 I1 H1 f2 s1 R1 r1 => ?_, xx⟩
  cases o with
  | d d =>
    obtain ⟨l, r, rfl, h⟩ := besK_of f2
    obtain ⟨a, C', dx, v1, v2, rfl, h1, h2, d1, d2⟩ := dd_bes r1
    have e1 : some (Value.ref C') = some (.ref C) := h1.symm.trans B.at_
    cases e1
    refine ⟨a, dx, _, rfl, R1.sub _ _ h2, ?_, fun _ => none, I1, [.d (besD l r)], _, _, ⟨R1.sub, (fun a j z => nomatch z), rfl, fun i s z => ?_⟩, (fun a j z => nomatch z), h, fun o os' v F' I' H' h s' R' r' => ?_, fun x' os' cls d F' I' H' h s' R' ex => ?_⟩
    · show List.lookup m [("left", v1), ("right", v2)] = none
      rw [List.lookup_cons, List.lookup_cons]
      rw [hn1, hn2]; rfl
    · match i, z with
      | 0, z => cases z; exact ⟨_, rfl, r1⟩
      | i + 1, z => simp at z
    · obtain ⟨R2, s2⟩ := after_call R1 s' R'.sub
      exact kk o ρ1 v F1 I' H' h (s1.trans s2) R2 ((ret_ok R1 r').older fun b => s1.old)
    · obtain ⟨R2, s2⟩ := after_call R1 s' R'.sub
      exact xx x' ρ1 cls d F1 I' H' h (s1.trans s2) R2 ex
  | _ => exact f2.elim
end

/-! ### making -/
def spMk (p : Pm) (C : Addr) (sp : DSp) : Sp := fun vs H Q E => ∃ I a dx v1 v2 l r PP PX, vs = [.ref a, v1, v2] ∧ H a = some (.ins C dx []) ∧ I a = none ∧ Same I H ∧ Dd p I v1 l ∧ Dd p I v2 r ∧ sp [.d l, .d r] PP PX ∧
  (∀ I' H' d, PP (.d d) [.d l, .d r] → (∀ b o, b ≠ a → H b = some o → H' b = some o) → Same I I' → (∀ b, I' b ≠ none → I b ≠ none ∨ H b = none ∨ b = a) → Same I' H' → Dd p I' (.ref a) d → Q .non H') ∧
  (∀ x cls d I' H', PX x [.d l, .d r] → (∀ b o, H b = some o → H' b = some o) → Same I I' → (∀ b, I' b ≠ none → I b ≠ none ∨ H b = none) → Same I' H' → ExOk p I' x cls d → E cls d H')
theorem w_make {p : Pm} {W : WX} {C : Addr} {sp : DSp} {g : DA} (h2 : ∀ os PP PX, sp os PP PX → ∃ l r, os = [.d l, .d r]) (σ : L2.St) (H : Hp) (Q : VK) (q : tE p W (dMake sp g) σ H Q) : tMakeS C (spMk p C sp) (WE W) (tA p W g) σ H Q := by
  obtain ⟨F, I, ρ, P, PX, R, f, k, x⟩ := q
  refine ⟨F, I, ρ, _, PX, R, f, fun os ρ1 vs F1 I1 H1 h s1 R1 r1 => ?_, x⟩
  obtain ⟨ds, e, h⟩ := onlyK_of h
  have r := onlyD_ok r1 e
  obtain ⟨l, rr, e2⟩ := h2 _ _ _ h
  intro a dx ha hdx hne
  match ds, e2, r with
  | [l', r'], e2, r =>
  rw [List.map_cons, List.map_cons, List.map_nil] at e2
  cases e2
  cases r with
  | cons q1 q2 =>
  cases q2 with
  | cons q3 q4 =>
  cases q4
  rename_i v1 v2
  have fi : I1 a = none := R1.fresh ha
  have hs : ∀ b o, H1 b = some o → upd (upd H1 dx (.own a)) a (.ins C dx []) b = some o := fun b o z => by
    rw [upd_ne (by rintro rfl; rw [ha] at z; cases z), upd_ne (by rintro rfl; rw [hdx] at z; cases z)]; exact z
  have hn : ∀ b, upd (upd H1 dx (.own a)) a (.ins C dx []) b = none → H1 b = none := fun b z => by
    cases y : H1 b with
    | none => rfl
    | some o => rw [hs b o y] at z; cases z
  refine ⟨I1, a, dx, v1, v2, l, rr, _, _, rfl, upd_same, fi, fun b o z => hs b o (R1.sub b o z), q1, q3, h, fun I' H' d hp hk hi hw hS hd => ⟨rfl, ?_⟩, fun x' cls d I' H' hp hk hi hw hS ex => ?_⟩
  · have hh : Same H1 H' := fun b o z => hk b o (by rintro rfl; rw [ha] at z; cases z) (hs b o z)
    have nn : ∀ b, I' b ≠ none → I1 b ≠ none ∨ H1 b = none := fun b z => by
      rcases hw b z with y | y | y
      · exact .inl y
      · exact .inr (hn b y)
      · exact .inr (by rw [y]; exact ha)
    exact k (.d d) ρ1 _ F1 I' H' hp (s1.trans (Step.more R1 hh hi nn)) (R1.more hh hi hS nn) hd
  · have hh : Same H1 H' := fun b o z => hk b o (hs b o z)
    have nn : ∀ b, I' b ≠ none → I1 b ≠ none ∨ H1 b = none := fun b z => by
      rcases hw b z with y | y
      · exact .inl y
      · exact .inr (hn b y)
    exact x x' ρ1 cls d F1 I' H' hp (s1.trans (Step.more R1 hh hi nn)) (R1.more hh hi hS nn) ex
theorem e_make {X : Cx} {W : WX} {pos pos' : Pos} {a : Expr} {es : List Expr} {g : DA} {k : Nat} {C f : Addr} {fd : FuncData} {ps : List Str} {sp : DSp} (B : BesT X.K X.mg C) (M : Mk X.K C f) (F : FnOk X.prog X.w X.K X.mg X.base (L2.CX X.prog X.w) k f fd ps (spMk (pm X noG) C sp)) (tk : Takes X W) (hr : Room (k + 1) X.A) (hg : Gl X "Beside") (hb : Binds X.K fd ps [])
    (h2 : ∀ os PP PX, sp os PP PX → ∃ l r, os = [.d l, .d r])
    (ha : PAd X noG W (a :: es) g) (he : starEach (a :: es) X.env = (false, eval a X.env) :: starEach es X.env := by rfl) (hpl : (backTo pos (starEach es X.env)).any (·.1) = false := by rfl) :
    PEd X noG W (.Call (.Name "Beside" pos') (a :: es) [] pos) (dMake sp g) := PE.weak (pe_makeS (E := WE W) M F hr hg B.at_ hb (fun σ => passAt tk σ) ha (by decide) he hpl) (w_make h2)

/-! ### __init__ -/
def iniEnds (l r : D) (PX : Exn → List S → Prop) : DEnds := ⟨fun _ => False, fun _ _ => False, fun _ => False, fun _ => False, fun x _ => PX x [.d l, .d r]⟩
def iniP (f : DE) (t : DT) (b : DS) (l r : D) (PP : O → List S → Prop) (PX : Exn → List S → Prop) : Prop :=
  f [none, some (.d l), some (.d r), none] (fun o _ => onlyd o fun d => t [none, some (.d l), some (.d r), some (.d d)] (fun c _ => (c = true → b (iniEnds l r PX) [none, some (.d l), some (.d r), some (.d d)]) ∧ (c = false → PP (.d (besD l r)) [.d l, .d r])) (fun x _ => PX x [.d l, .d r])) (fun x _ => PX x [.d l, .d r])
theorem w_ini {p : Pm} {K : PySem.W.Frag} {W : WX} {C : Addr} {E : XK} {f : DE} {t : DT} {b : DS} {l r : D} {PP : O → List S → Prop} {PX : Exn → List S → Prop} (B : BesT K p.mg C) (hW : ∀ cls d σ H, E cls d H → W cls d σ H) {H : Hp} {Q : VK} {I : Hp} {a dx : Addr} {v1 v2 : V} {D : Ends}
    (hD : ∀ σ H, Q .non H → D.nx σ H)
    (e1 : H a = some (.ins C dx [])) (e2 : I a = none) (e3 : Same I H) (d1 : Dd p I v1 l) (d2 : Dd p I v2 r) (hb : iniP f t b l r PP PX)
    (k : ∀ I' H' d, PP (.d d) [.d l, .d r] → (∀ b o, b ≠ a → H b = some o → H' b = some o) → Same I I' → (∀ b, I' b ≠ none → I b ≠ none ∨ H b = none ∨ b = a) → Same I' H' → Dd p I' (.ref a) d → Q .non H')
    (kx : ∀ x cls d I' H', PX x [.d l, .d r] → (∀ b o, H b = some o → H' b = some o) → Same I I' → (∀ b, I' b ≠ none → I b ≠ none ∨ H b = none) → Same I' H' → ExOk p I' x cls d → E cls d H') :
    tSeq (tAsg (tE p W f) (gName 3)) (tSeq (tIfS (tT p W t) (tS p W b) tNext) (tSeq (sFld K (tVar 0) (tVar 1) "left") (sFld K (tVar 0) (tVar 2) "right"))) D [some (.ref a), some v1, some v2, none] H := by
  let F0 : Lab := fun _ => none
  have st : ∀ {I' H' : Hp}, Step F0 I H F0 I' H' → (∀ b o, H b = some o → H' b = some o) ∧ ∀ b, I' b ≠ none → I b ≠ none ∨ H b = none := fun s => ⟨fun b o z => s.keep b o z rfl, fun b z => (s.newI b z).elim .inl fun y => y.elim .inr fun y => absurd rfl y⟩
  have nol : ∀ {F' : Lab} {I' H' : Hp}, Step F0 I H F' I' H' → Step F0 I H F0 I' H' := fun s => ⟨s.keep, s.inc, s.newI, (fun a j z => nomatch z), s.there⟩
  have nol2 : ∀ {I1 H1 : Hp} {F' : Lab} {I' H' : Hp}, Step F0 I1 H1 F' I' H' → Step F0 I1 H1 F0 I' H' := fun s => ⟨s.keep, s.inc, s.newI, (fun a j z => nomatch z), s.there⟩
  refine ⟨F0, I, [none, some (.d l), some (.d r), none], _, _, ⟨e3, (fun a j z => nomatch z), rfl, fun i s z => ?_⟩, hb, fun o ρ' v F' I' H' h s' R' r' => ?_, fun x ρ' cls d F' I' H' h s' R' ex => ?_⟩
  · match i, z with
    | 0, z => cases z
    | 1, z => cases z; exact ⟨_, rfl, d1⟩
    | 2, z => cases z; exact ⟨_, rfl, d2⟩
    | 3, z => cases z
    | i + 4, z => simp at z
  · cases o with
    | d d =>
      have s1 := nol s'
      refine ⟨F0, I', [none, some (.d l), some (.d r), some (.d d)], _, _, ⟨R'.sub, (fun a j z => nomatch z), rfl, fun i s z => ?_⟩, h, fun c ρ2 F2 I2 H2 h2 s2 R2 => ?_, fun x ρ2 cls d F2 I2 H2 h2 s2 R2 ex => ?_⟩
      · match i, z with
        | 0, z => cases z
        | 1, z => cases z; exact ⟨_, rfl, Dd.mono s1.inc d1⟩
        | 2, z => cases z; exact ⟨_, rfl, Dd.mono s1.inc d2⟩
        | 3, z => cases z; exact ⟨_, rfl, r'⟩
        | i + 4, z => simp at z
      · have s3 := s1.trans (nol2 s2)
        cases c with
        | true =>
          refine iteT ⟨F0, I2, [none, some (.d l), some (.d r), some (.d d)], _, ⟨R2.sub, (fun a j z => nomatch z), rfl, fun i s z => ?_⟩, h2.1 rfl, ⟨fun _ _ _ _ _ h => h.elim, fun _ _ _ _ _ h => h.elim, fun _ _ _ _ _ h => h.elim, fun _ _ _ _ _ _ _ h => h.elim, fun x ρ3 cls d σ3 F3 I3 H3 h3 s3' R3 ex => ?_⟩⟩
          · match i, z with
            | 0, z => cases z
            | 1, z => cases z; exact ⟨_, rfl, Dd.mono s3.inc d1⟩
            | 2, z => cases z; exact ⟨_, rfl, Dd.mono s3.inc d2⟩
            | 3, z => cases z; exact ⟨_, rfl, Dd.mono s2.inc r'⟩
            | i + 4, z => simp at z
          · have s4 := s3.trans (nol2 s3')
            exact hW _ _ _ _ (kx x cls d I3 H3 h3 (st s4).1 s4.inc (st s4).2 R3.sub ex)
        | false =>
          have q := h2.2 rfl
          have ea : H2 a = some (.ins C dx []) := (st s3).1 _ _ e1
          have ia : I2 a = none := by
            cases y : I2 a with
            | none => rfl
            | some o =>
              rcases (st s3).2 a (by rw [y]; simp) with z | z
              · exact absurd e2 z
              · rw [e1] at z; cases z
          refine iteF ⟨v1, rfl, .ref a, rfl, a, C, dx, [], rfl, ea, B.cls, B.left, by decide, v2, rfl, .ref a, rfl, a, C, dx, [("left", v1)], rfl, upd_same, B.cls, B.right, by simp, hD _ _ ?_⟩
          have dm : ∀ {v d}, Dd p I2 v d → Dd p (upd I2 a (.ins C dx [("left", v1), ("right", v2)])) v d := fun z => Dd.mono (fun b o y => by rw [upd_ne (by rintro rfl; rw [ia] at y; cases y)]; exact y) z
          refine k (upd I2 a (.ins C dx [("left", v1), ("right", v2)])) _ (besD l r) q (fun b o hb z => ?_) (fun b o z => ?_) (fun b z => ?_) (fun b o z => ?_) (bes_dd B.at_ upd_same (dm (Dd.mono s3.inc d1)) (dm (Dd.mono s3.inc d2)))
          · rw [upd_ne hb, upd_ne hb]; exact (st s3).1 b o z
          · rw [upd_ne (by rintro rfl; rw [e2] at z; cases z)]; exact s3.inc b o z
          · by_cases y : b = a
            · exact .inr (.inr y)
            · rw [upd_ne y] at z
              rcases (st s3).2 b z with w | w
              · exact .inl w
              · exact .inr (.inl w)
          · by_cases y : b = a
            · subst y
              rw [upd_same] at z
              cases z
              exact upd_same
            · rw [upd_ne y] at z
              rw [upd_ne y, upd_ne y]; exact R2.sub b o z
      · have s3 := s1.trans (nol2 s2)
        exact hW _ _ _ _ (kx x cls d I2 H2 h2 (st s3).1 s3.inc (st s3).2 R2.sub ex)
    | _ => exact h.elim
  · have s1 := nol s'
    exact hW _ _ _ _ (kx x cls d I' H' h (st s1).1 s1.inc (st s1).2 R'.sub ex)
theorem fn_ini {P : Program} {w : World} {K : PySem.W.Frag} {mg : Str → Option Value} {base : Heap} {qual : Str} {st : Stmt} {fa C : Addr} {fd : FuncData} {N ps : List Str} {k : Nat} {sp : DSp} {f : DE} {t : DT} {b : DS} (F : Fun K "__init__" qual st fa fd) (hS : FnScope N ps (defScope st)) (hN : N.length = 4) (hp : ps.length = 3) (B : BesT K mg C)
    (hd : ∀ (cdv : Value) (A : Around) (outer : List Env) (s : Shared) (H : Hp) (E : XK), Room k (A.deeper (envOfC qual (defScope st) s.heap.objs.size fa cdv)) →
      PSs (cxOf (L2.CX P w) P w K mg base N qual (defScope st) fa cdv A outer s H E) (defBody st) (tSeq (tAsg (tE ⟨K, mg, noG⟩ (fun cls d _ H => E cls d H) f) (gName 3)) (tSeq (tIfS (tT ⟨K, mg, noG⟩ (fun cls d _ H => E cls d H) t) (tS ⟨K, mg, noG⟩ (fun cls d _ H => E cls d H) b) tNext) (tSeq (sFld K (tVar 0) (tVar 1) "left") (sFld K (tVar 0) (tVar 2) "right")))))
    (hb : ∀ l r PP PX, sp [.d l, .d r] PP PX → iniP f t b l r PP PX) : FnOk P w K mg base (L2.CX P w) (k + 1) fa fd ps (spMk ⟨K, mg, noG⟩ C sp) := by
  refine F.okX hS (fun vs H Q E h => ?_) (fun cdv A outer s H vs Q E hr h => ⟨_, hd cdv A outer s H E hr, ?_⟩)
  · obtain ⟨I, a, dx, v1, v2, l, r, PP, PX, rfl, _⟩ := h
    exact hp.symm
  · obtain ⟨I, a, dx, v1, v2, l, r, PP, PX, rfl, e1, e2, e3, d1, d2, hsp, kk, kx⟩ := h
    have es : L2.start N [.ref a, v1, v2] = [some (.ref a), some v1, some v2, none] := by
      unfold L2.start
      simp [hN]
    rw [es]
    exact w_ini (p := ⟨K, mg, noG⟩) B (fun _ _ _ _ h => h) (fun _ _ h => h) e1 e2 e3 d1 d2 (hb l r PP PX hsp) kk kx
end Dt

/-! # Dt: places of two rules side by side, crossing -/
namespace Dt
open PySem PySem.Spec PyProof.Rows L2
def plD (p : Pl) : D := .tuple [.int p.1, hD p.2.1, hD p.2.2]
@[irreducible] def plK (d : D) (k : Pl → Prop) : Prop := ∃ p, d = plD p ∧ k p
theorem plK_in {p : Pl} {k : Pl → Prop} (h : k p) : plK (plD p) k := by unfold plK; exact ⟨p, rfl, h⟩
theorem plK_in2 {i : Int} {h c : Heap1} {k : Pl → Prop} (q : k (i, h, c)) : plK (.tuple [.int i, hD h, hD c]) k := plK_in (p := (i, h, c)) q
theorem plK_of {d : D} {k : Pl → Prop} (h : plK d k) : ∃ p, d = plD p ∧ k p := by unfold plK at h; exact h
def isPlB (r s : List Heap1) (p : Pl) : Bool := (decide (p.1 = 1) || decide (p.1 = 2)) && isPairB (ownR r s p.1) (p.2.1, p.2.2)
theorem isPl_iff {r s : List Heap1} {p : Pl} : isPlB r s p = true ↔ PlP r s p := by
  unfold isPlB
  rw [Bool.and_eq_true, Bool.or_eq_true, decide_eq_true_iff, decide_eq_true_iff, isPair_iff]
  exact ⟨fun h => ⟨h.1, h.2⟩, fun h => ⟨h.side, h.pair⟩⟩
theorem putH_comm (a b : Heap1) : putH a b = putH b a := by
  have e : srt (a ++ b) = srt (b ++ a) := srt_eq ((srt_perm _).trans List.perm_append_comm) (srt_up _)
  unfold putH
  rw [e]
section
variable {r s : List Heap1} {p : Pl} {h : Heap1} {c : List Int}
theorem up_len : ∀ {c : List Int} {lo m : Int}, c.Pairwise (· < ·) → (∀ j ∈ c, lo ≤ j ∧ j < m) → (c.length : Int) ≤ max 0 (m - lo)
  | [], _, _, _, _ => by simp; omega
  | x :: c, lo, m, h, b => by
    obtain ⟨h1, h2⟩ := List.pairwise_cons.mp h
    have := up_len (c := c) (lo := x + 1) (m := m) h2 fun j hj => ⟨by have := h1 j hj; omega, (b j (by simp [hj])).2⟩
    have := b x (by simp)
    simp only [List.length_cons]
    omega
theorem pair_short (P : PairP r (h, c)) : c.length ≤ r.length := by
  have : (c.length : Int) ≤ max 0 ((r.length : Int) - 0) := up_len (lo := 0) (m := r.length) P.up fun j hj => P.at' j hj
  omega
theorem join_short {n : Nat} (M : Mates n r s) (hc : okC r.length c) : (joinL (pickC r c)).length ≤ 64 * c.length := by
  have h1 := joinL_len (pickC r c)
  have h2 := flat_le (c := 64) (r := pickC r c) fun g hg => Nat.le_trans (M.h1 g (pickC_mem hc g hg)).2.1 (by decide)
  have h3 : (pickC r c).length = c.length := List.length_map ..
  rw [h3] at h2
  omega
end
@[irreducible] def besR (d : D) (k : List Heap1 → List Heap1 → Prop) : Prop := ∃ a b, d = besD (rD a) (rD b) ∧ k a b
theorem besR_in {a b : List Heap1} {k : List Heap1 → List Heap1 → Prop} (h : k a b) : besR (besD (rD a) (rD b)) k := by unfold besR; exact ⟨a, b, rfl, h⟩
theorem besR_of {d : D} {k : List Heap1 → List Heap1 → Prop} (h : besR d k) : ∃ a b, d = besD (rD a) (rD b) ∧ k a b := by unfold besR at h; exact h
@[irreducible] def rrK (d : D) (k : List Heap1 → List Heap1 → Prop) : Prop := ∃ a b, d = .tuple [rD a, rD b] ∧ k a b
theorem rrK_in {a b : List Heap1} {k : List Heap1 → List Heap1 → Prop} (h : k a b) : rrK (.tuple [rD a, rD b]) k := by unfold rrK; exact ⟨a, b, rfl, h⟩
theorem rrK_of {d : D} {k : List Heap1 → List Heap1 → Prop} (h : rrK d k) : ∃ a b, d = .tuple [rD a, rD b] ∧ k a b := by unfold rrK at h; exact h
end Dt

/-! # Dt: places of two rules side by side, toggling -/
namespace Dt
open PySem PySem.Spec PyProof.Rows L2
def opPl : Option Pl → D
  | none => .none
  | some p => plD p
end Dt

/-! # Dt: the walk between two rules side by side ends -/
namespace Dt
open PySem PySem.Spec PyProof.Rows L2
theorem choicesL_succ (m : Nat) : choicesL (m + 1) = choicesL m ++ (choicesL m).map (· ++ [(m : Int)]) := by
  rw [choicesL_range, choicesL_range, List.range_succ, List.map_append, List.map_cons, List.map_nil, chosenL_snoc]
theorem choices_mem : ∀ {m : Nat} {c : List Int}, c.Pairwise (· < ·) → (∀ j ∈ c, 0 ≤ j ∧ j < (m : Int)) → c ∈ choicesL m
  | 0, c, _, h => by
    cases c with
    | nil => exact List.mem_singleton.mpr rfl
    | cons x t => have := h x (by simp); omega
  | m + 1, c, up, h => by
    rw [choicesL_succ]
    by_cases c0 : c = []
    · subst c0
      exact List.mem_append_left _ (choices_mem (m := m) List.Pairwise.nil (by simp))
    · obtain ⟨d, x, rfl⟩ : ∃ d x, c = d ++ [x] := ⟨c.dropLast, c.getLast c0, (List.dropLast_concat_getLast c0).symm⟩
      have hd := List.pairwise_append.mp up
      have hx := h x (by simp)
      by_cases e : x = (m : Int)
      · subst e
        refine List.mem_append_right _ (List.mem_map.mpr ⟨d, choices_mem hd.1 fun j hj => ⟨(h j (by simp [hj])).1, hd.2.2 j hj _ (by simp)⟩, rfl⟩)
      · refine List.mem_append_left _ (choices_mem up fun j hj => ⟨(h j hj).1, ?_⟩)
        rcases List.mem_append.mp hj with hj | hj
        · have := hd.2.2 j hj x (by simp); omega
        · rw [List.mem_singleton.mp hj]; omega
def opNK (o : Option Nat) (f : Nat → Prop) (g : Prop) : Prop := match o with
  | some j => f j
  | none => g
theorem heap_len {h : Heap1} : (∀ x ∈ h, 1 ≤ x) → (h.length : Int) ≤ h.sum := by
  intro hp
  induction h with
  | nil => simp
  | cons x h ih =>
    have := ih fun y hy => hp y (by simp [hy])
    have := hp x (by simp)
    rw [List.sum_cons, List.length_cons]
    omega
theorem first_keep {r : List Heap1} {h : Heap1} : firstN r h = none ↔ keepB r h = true := by
  unfold firstN keepB
  rw [List.findIdx?_eq_none_iff, List.all_eq_true]
  exact ⟨fun z x hx => by rw [z x hx]; rfl, fun z x hx => by have := z x hx; simpa using this⟩
end Dt

/-! # Dt: the rows of a whole walk -/
namespace Dt
open PySem PySem.Spec PyProof.Rows L2
section
variable {r s : List Heap1} {p q : Pl} {n : Int} {N i : Nat}
/-- no place stands twice -/
theorem WholeW.once {h : Heap1} {rows : List Pl} (M : Mates N r s) (w : WholeW r s h rows) : ∀ (k l : Nat) (p : Pl), k < l → rows[k]? = some p → rows[l]? = some p → False
  | k, 0, p, hl, _, _ => absurd hl (Nat.not_lt_zero _)
  | k, l + 1, p, hl, e1, e2 => by
    have o1 := (w.at' M k p e1).odd M
    have o2 := (w.at' M (l + 1) p e2).odd M
    have hl2 := (List.getElem?_eq_some_iff.mp e2).1
    have hr : l < rows.length := by omega
    have e3 := w.get hr
    have n2 := w.by'.next l _ p e3 e2
    have a3 := w.at' M l _ e3
    cases k with
    | zero =>
      -- the first place has no toggled one
      rw [stepR, if_neg (by omega)] at n2
      have t := (tog_some (a3.place M).1 n2).2.1
      rw [w.first] at e1
      cases e1
      rw [start_none w.keep] at t
      cases t
    | succ k =>
      have hk : k < rows.length := by omega
      have e4 := w.get hk
      have n1 := w.by'.next k _ p e4 e1
      have a4 := w.at' M k _ e4
      by_cases hp : (1 + k) % 2 = 1
      · rw [stepR, if_pos hp] at n1
        rw [stepR, if_pos (by omega)] at n2
        have x1 := cross_twice M (a4.place M).1 (a4.place M).2.1
        have x2 := cross_twice M (a3.place M).1 (a3.place M).2.1
        rw [Option.some.inj n1] at x1
        rw [Option.some.inj n2] at x2
        have y : rows[k] = rows[l] := x1.symm.trans x2
        exact w.once M k l _ (by omega) e4 (by rw [e3, y])
      · rw [stepR, if_neg hp] at n1
        rw [stepR, if_neg (by omega)] at n2
        have x1 := (tog_some (a4.place M).1 n1).2.1
        have x2 := (tog_some (a3.place M).1 n2).2.1
        have y : rows[k] = rows[l] := Option.some.inj (x1.symm.trans x2)
        exact w.once M k l _ (by omega) e4 (by rw [e3, y])
theorem WholeW.nodup {h : Heap1} {rows : List Pl} (M : Mates N r s) (w : WholeW r s h rows) : rows.Nodup := by
  unfold List.Nodup
  rw [List.pairwise_iff_getElem]
  intro k l hk hl hkl e
  exact w.once M k l _ hkl (w.get hk) (by rw [w.get hl, e])
theorem WholeW.four {h : Heap1} {rows : List Pl} (M : Mates N r s) (w : WholeW r s h rows) : rows.length % 4 = 2 := by
  obtain ⟨h1, g, e, _⟩ := w.end' M
  have := w.side M _ _ e
  have l0 := w.len0
  have : (2 : Int) = if (1 + (rows.length - 1)) / 2 % 2 = 0 then 1 else 2 := this
  split at this
  · omega
  · omega
end
/-! ### places and rows of places as data -/
theorem good_pl : Good (cTri cInt cHeap cHeap) 2 := good_int.Tri good_heap good_heap
theorem sh_pl (p : Pl) : SeqAt.shaped (plD p) = true := good_pl.sh (by decide) p
theorem sh_lpl (p : List Pl) : SeqAt.shaped (.list (p.map plD)) = true := good_pl.L.sh (by decide) p
theorem eqv_PL (a b : Pl) : PyData.eqv (plD a) (plD b) = decide (a = b) := good_pl.eqv a b
theorem eqv_LPL (a b : List Pl) : PyData.eqv (.list (a.map plD)) (.list (b.map plD)) = decide (a = b) := good_pl.L.eqv a b
theorem eqvT_PL {a b : Pl} (h : a = b) : PyData.eqv (plD a) (plD b) = true := by rw [eqv_PL, decide_eq_true h]
theorem eqvT_LPL {a b : List Pl} (h : a = b) : PyData.eqv (.list (a.map plD)) (.list (b.map plD)) = true := by rw [eqv_LPL, decide_eq_true h]
theorem noL_pl (p : Pl) : noL (plD p) = true := by
  show (true && (noL (hD p.2.1) && (noL (hD p.2.2) && true))) = true
  rw [noL_heap, noL_heap]; rfl
theorem noLs_pls (r : List Pl) : noLs (r.map plD) = true := noLs_map noL_pl r
@[irreducible] def lplK (d : D) (k : List Pl → Prop) : Prop := ∃ r, d = .list (r.map plD) ∧ k r
theorem lplK_in {r : List Pl} {k : List Pl → Prop} (h : k r) : lplK (.list (r.map plD)) k := by unfold lplK; exact ⟨r, rfl, h⟩
theorem lplK_of {d : D} {k : List Pl → Prop} (h : lplK d k) : ∃ r : List Pl, d = .list (r.map plD) ∧ k r := by unfold lplK at h; exact h
/-- whether rows are the walk of their first one's heap -/
def isWalkB (r s : List Heap1) (rows : List Pl) : Bool := match rows with
  | [] => false
  | p :: t => keepB r p.2.1 && decide (p :: t = rowsL r s (t.length + 1) 1 (1, p.2.1, []))
end Dt

/-! # Dt: enumerate(xs, start=1) -/
namespace Dt
open PySem PySem.Spec PyProof.Rows L2
section
variable {M : Model} {A : Around} {E : Value → Shared → Prop} {s : Shared}
/-- a built-in class called with keywords -/
theorem callTy_kw {pos : Pos} {T : String} {args : List (Bool × Sem Value)} {keywords : List (Option Str × Sem Value)} {Q : Value → Shared → Prop} (h1 : args.any (·.1) = false) (h2 : keywords.any (·.1.isNone) = false)
    (h : wpAny M A (evalArgs (.type T) true args keywords) (fun a s₁ => wpAny M A (call (.type T) ([] ++ a.pos) a.kw) Q E s₁) E s) : wpAny M A (callWith pos (.type T) [] args keywords) Q E s := by
  unfold callWith
  refine wpAny_bind (wpAny_holding (wpAny_mono h (fun a s₁ q => wpAny_bind (wpAny_standAt ?_)) fun _ _ x => x))
  simp only [h1, h2, Bool.or_false]
  refine wpAny_bind (wpAny_pure ?_)
  exact wpAny_bind (wpAny_mono q (fun r s₂ hr => wpAny_bind (wpAny_holding (wpAny_point (wpAny_pure hr)))) fun _ _ x => x)
end
section
variable {X : Cx} {e : Expr} {ta : TA} {p pos tpos kp1 kp2 : Pos} {elts : List Expr} {kk j : Nat}
def iEnS1 (K : PySem.W.Frag) (ta : TA) : TI := fun σ H R => ta σ H fun vs H1 => ∃ a xs b, vs = [.ref a] ∧ SqK K H1 b a xs ∧ R (IteS K b 1 a) H1
theorem pi_enS1 (hg : Gl X "enumerate") (hm : X.mg "enumerate" = none) (ha : PA X [e] ta) (hs : starEach [e] X.env = (false, eval e X.env) :: starEach [] X.env := by rfl)
    (hall : (backToKw pos (keywordEach [⟨some "start", .Constant (.int 1) j kp1, kp2⟩] X.env)).all (·.1.isSome) = true := by rfl) (hnone : (backToKw pos (keywordEach [⟨some "start", .Constant (.int 1) j kp1, kp2⟩] X.env)).any (·.1.isNone) = false := by rfl)
    (hks : (backToKw pos (keywordEach [⟨some "start", .Constant (.int 1) j kp1, kp2⟩] X.env)).filterMap (·.1) = [Str.ofString "start"] := by rfl) (hpl : (backTo pos (starEach [e] X.env)).any (·.1) = false := by rfl) :
    PI X (.Tuple elts kk tpos) (.Call (.Name "enumerate" p) [e] [⟨some "start", .Constant (.int 1) j kp1, kp2⟩] pos) (iEnS1 X.K ta) := by
  refine ⟨fun pins s σ H R J h => wpAny_Call_Name_kw (ld_blt J hg hm boot_enumerate ?_)⟩
  refine callTy_kw hpl hnone ?_
  refine evalArgs_kw2 hall (thn (ha.run pos pins s σ H _ J h) fun us s1 ⟨vs, H1, I1, r1, q1⟩ => ?_) hs
  refine thn ((pk_cons (nm := some "start") (kpos := kp2) (pe_int (i := 1)) pk_nil).run pos pins s1 σ H1 (fun zs H2 => zs = [.int 1] ∧ H2 = H1) I1 ⟨rfl, rfl⟩) fun ws s2 ⟨zs, H2, I2, r2, q2⟩ => ?_
  obtain ⟨rfl, rfl⟩ := q2
  obtain ⟨w1, rfl, t1, rfl⟩ := vals1 r2
  rw [hks]
  obtain ⟨a, xs, b, rfl, hq, q⟩ := q1
  cases r1 with
  | cons r rr =>
    cases rr
    cases r
    obtain ⟨its, rv, p', hz⟩ := Inv.sq I2 hq
    have la := isSq_lt p'
    show wpAny (model X.prog X.w) X.A (call (.type "enumerate") [.ref a] [(Str.ofString "start", .int 1 t1)]) _ _ _
    refine enum_begins_start (sqBegins b a its.toArray) p' (by decide) (by decide) fun h' he hit hsz hk => wpAny_pyIter_enum he ?_
    have I3 : L2.Inv X pins σ H2 { s2 with heap := h' } := I2.kept (t' := s2.toks) hk
    refine ⟨s2.heap.objs.size + 1, [s2.heap.objs.size + 1, s2.heap.objs.size], _, _, H2, rfl, I3, turn_enumS b 1 a (s2.heap.objs.size + 1) s2.heap.objs.size (Nat.ne_of_lt la) (Nat.ne_of_lt (Nat.lt_succ_of_lt la)) (Nat.succ_ne_self _), ⟨⟨.none, he⟩, itSq_new hit⟩, fun c hc => ?_, q⟩
    have hle : s2.heap.objs.size ≤ c := by
      rcases (by simpa using hc : c = s2.heap.objs.size + 1 ∨ c = s2.heap.objs.size) with z | z
      · rw [z]; exact Nat.le_add_right _ _
      · rw [z]; exact Nat.le_refl _
    exact I2.fpOk hle (I2.hok.fresh hle)
end
def dItE1 (g : DA) : DI := fun ρ P PX => g ρ (fun os ρ1 => match os with
  | [o] => getK (sqO o) fun ds => P (pairD 1 0 ds) ρ1
  | _ => False) PX
section
variable {p : Pm} {F F' : Lab} {I I' H0 H H' : Hp} {σ : L2.St} {ρ : Rho} {v : V} {o : O} {ds : List D}
theorem itw_enum1 {b : Bool} {a : Addr} {vs : List V} (h : ∀ F' I' H', Step F I H F' I' H' → Same I' H' → SqK p.K H' b a vs) (r : DdAll p I vs ds) (z : vs.length ≤ sizeLine) : ItW p false (IteS p.K b 1 a) F I H (pairD 1 0 ds) where
  ex := by
    refine ⟨fun H => SqK p.K H b a vs, YPair (fun i => some (.int (1 + ((i : Nat) : Int)))) (fun i => vs[i]?), ?_, h, fun i H1 x H2 hi hy F1 I1 s1 s2 hl => ?_⟩
    · rw [pairD_len, ← r.length]
      exact ⟨fun i H hi hg => ⟨vs, _, hg, List.getElem?_eq_getElem hi⟩, fun H hg => ⟨vs, hg, rfl⟩, fun i H x H' hi hg ⟨T, y, e1, e2, e3, e4⟩ => ⟨T, _, y, e1, e2, e3, rfl, e4 vs hg⟩⟩
    · obtain ⟨T, x1, y, rfl, hT, rfl, e1, e2⟩ := hy
      cases e1
      obtain ⟨d, h1, h2⟩ := r.getV e2
      refine ⟨I1, _, pairD_get 1 0 ds i d h1, same_upd hT, fun _ _ e => e, fun c y e => same_upd hT _ _ (s2 _ _ e), fun _ e => .inl e, ?_⟩
      have e0 : (1 : Int) + ((0 + i : Nat) : Int) = 1 + ((i : Nat) : Int) := by simp
      rw [e0]
      exact item_pair (.int _) (Dd.mono s1.inc h2)
  big := by rw [pairD_len, ← r.length]; exact z
end
section
variable {X : Cx} {G : V → Nat → Option Addr → Prop} {W : WX} {e : Expr} {g : DA} {p pos tpos kp1 kp2 : Pos} {elts : List Expr} {kk j : Nat}
theorem i_enum1 (hg : Gl X "enumerate") (hm : X.mg "enumerate" = none) (ha : PAd X G W [e] g) (hs : starEach [e] X.env = (false, eval e X.env) :: starEach [] X.env := by rfl)
    (hall : (backToKw pos (keywordEach [⟨some "start", .Constant (.int 1) j kp1, kp2⟩] X.env)).all (·.1.isSome) = true := by rfl) (hnone : (backToKw pos (keywordEach [⟨some "start", .Constant (.int 1) j kp1, kp2⟩] X.env)).any (·.1.isNone) = false := by rfl)
    (hks : (backToKw pos (keywordEach [⟨some "start", .Constant (.int 1) j kp1, kp2⟩] X.env)).filterMap (·.1) = [Str.ofString "start"] := by rfl) (hpl : (backTo pos (starEach [e] X.env)).any (·.1) = false := by rfl) :
    PId X G W false (.Tuple elts kk tpos) (.Call (.Name "enumerate" p) [e] [⟨some "start", .Constant (.int 1) j kp1, kp2⟩] pos) (dItE1 g) := PI.weak (pi_enS1 hg hm ha hs hall hnone hks hpl) fun σ H R q => by
  obtain ⟨F, I, ρ, P, PX, RR, f1, k, x⟩ := q
  refine ⟨F, I, ρ, _, PX, RR, f1, fun os ρ1 vs F1 I1 H1 f2 s1 R1 r1 => ?_, x⟩
  split at f2
  · obtain ⟨ds, e, f2⟩ := getK_of f2
    cases r1 with
    | cons r rr =>
      cases rr
      obtain ⟨b, a, ws, rfl, hq, hd, hb, hst⟩ := sq_src R1 r e
      exact ⟨a, ws, b, rfl, hq, fun big => k _ ρ1 F1 I1 H1 _ f2 s1 R1 (itw_enum1 hst hd (big_src big hb))⟩
  · exact f2.elim
end
end Dt

/-! # Dt: dicts whose keys are tuples (of ints, and of such tuples) -/
namespace Dt
open PySem PySem.Spec PyProof.Rows L2
mutual
def nkOf : D → Option NK
  | .int i => some (.num i)
  | .tuple ds => (nksOf ds).map .tup
  | _ => none
def nksOf : List D → Option (List NK)
  | [] => some []
  | d :: ds => match nkOf d with
    | some k => (match nksOf ds with
      | some ks => some (k :: ks)
      | none => none)
    | none => none
end
mutual
theorem nk_v {p : Pm} {I : Hp} : ∀ {v : V} {d : D} {k : NK}, Dd p I v d → nkOf d = some k → NkV I v k
  | _, _, _, .non, h => by unfold nkOf at h; cases h
  | _, _, _, .bl b, h => by unfold nkOf at h; cases h
  | _, _, _, .int i, h => by unfold nkOf at h; cases h; exact .int i
  | _, _, _, .str x, h => by unfold nkOf at h; cases h
  | _, _, _, .lst _ _, h => by unfold nkOf at h; cases h
  | _, _, _, .tup g z hs, h => by
    unfold nkOf at h
    obtain ⟨ks, e, rfl⟩ := Option.map_eq_some_iff.mp h
    exact .tup g (nks_v hs e)
  | _, _, _, .ins _ _ _, h => by unfold nkOf at h; cases h
  | _, _, _, .dic _ _, h => by unfold nkOf at h; cases h
  | _, _, _, .dicL _ _, h => by unfold nkOf at h; cases h
  | _, _, _, .scr _ _, h => by unfold nkOf at h; cases h
  | _, _, _, .fn _, h => by unfold nkOf at h; cases h
theorem nks_v {p : Pm} {I : Hp} : ∀ {vs : List V} {ds : List D} {ks : List NK}, DdAll p I vs ds → nksOf ds = some ks → NkVs I vs ks
  | _, _, _, .nil, h => by unfold nksOf at h; cases h; exact .nil
  | _, _, _, .cons r rs, h => by
    unfold nksOf at h
    split at h
    · rename_i k e
      split at h
      · rename_i ks e2
        cases h
        exact .cons (nk_v r e) (nks_v rs e2)
      · cases h
    · cases h
end
theorem nks_map {α : Type} {f : α → D} {g : α → NK} (h : ∀ a, nkOf (f a) = some (g a)) : ∀ xs : List α, nksOf (xs.map f) = some (xs.map g)
  | [] => by unfold nksOf; rfl
  | x :: xs => by rw [List.map_cons, nksOf, h x, nks_map h xs]; rfl
/-- heaps and pairs of heaps as keys -/
def nkH (h : Heap1) : NK := .tup (h.map NestedKey.num)
def nkP (q : Heap1 × Heap1) : NK := .tup [nkH q.1, nkH q.2]
theorem nkOf_H (h : Heap1) : nkOf (hD h) = some (nkH h) := by
  show nkOf (.tuple (h.map PyData.int)) = _
  rw [nkOf, nks_map (g := NestedKey.num) (fun i => by unfold nkOf; rfl) h]
  rfl
theorem nkOf_P (q : Heap1 × Heap1) : nkOf (hpD q) = some (nkP q) := by
  show nkOf (.tuple [hD q.1, hD q.2]) = _
  rw [nkOf, nksOf, nkOf_H, nksOf, nkOf_H, nksOf]
  rfl
theorem depth_nums : ∀ h : Heap1, NestedKey.depthAll (h.map NestedKey.num) = 0
  | [] => by unfold NestedKey.depthAll; rfl
  | x :: h => by rw [List.map_cons, NestedKey.depthAll, depth_nums h, NestedKey.depth]; rfl
theorem depth_nkH (h : Heap1) : (nkH h).depth = 1 := by unfold nkH; rw [NestedKey.depth, depth_nums]
theorem depth_nkP (q : Heap1 × Heap1) : (nkP q).depth = 2 := by unfold nkP; rw [NestedKey.depth, NestedKey.depthAll, NestedKey.depthAll, NestedKey.depthAll, depth_nkH, depth_nkH]; rfl
theorem numInj : ∀ a b : Heap1, a.map NestedKey.num = b.map NestedKey.num → a = b
  | [], [], _ => rfl
  | [], _ :: _, e => by simp at e
  | _ :: _, [], e => by simp at e
  | x :: a, y :: b, e => by
    rw [List.map_cons, List.map_cons] at e
    injection e with e1 e2
    injection e1 with e1
    rw [e1, numInj a b e2]
theorem nkH_inj {a b : Heap1} : nkH a = nkH b ↔ a = b := by
  refine ⟨fun e => ?_, fun e => by rw [e]⟩
  unfold nkH at e
  injection e with e
  exact numInj a b e
@[irreducible] def nkK (d : D) (f : NK → Prop) : Prop := ∃ ds k, d = .tuple ds ∧ nkOf d = some k ∧ k.depth ≤ 8 ∧ f k
theorem nkK_H {h : Heap1} {f : NK → Prop} (q : f (nkH h)) : nkK (hD h) f := by unfold nkK; exact ⟨_, _, rfl, nkOf_H h, by rw [depth_nkH]; omega, q⟩
theorem nkK_P {p : Heap1 × Heap1} {f : NK → Prop} (q : f (nkP p)) : nkK (hpD p) f := by unfold nkK; exact ⟨_, _, rfl, nkOf_P p, by rw [depth_nkP]; omega, q⟩
end Dt

/-! # Dt: weights and sums tell the same -/
namespace Dt
open PySem PySem.Spec PyProof.Rows L2
def offC (m : Nat) (d : List Int) : List Int := ((List.range m).filter fun i : Nat => !decide ((i : Int) ∈ d)).map fun i : Nat => (i : Int)
theorem offC_mem {m : Nat} {d : List Int} {j : Int} : j ∈ offC m d ↔ (0 ≤ j ∧ j < (m : Int)) ∧ j ∉ d := by
  unfold offC
  rw [List.mem_map]
  constructor
  · rintro ⟨i, hi, rfl⟩
    obtain ⟨h1, h2⟩ := List.mem_filter.mp hi
    have := List.mem_range.mp h1
    refine ⟨by omega, fun z => ?_⟩
    simp [z] at h2
  · rintro ⟨⟨h1, h2⟩, h3⟩
    have e : ((j.toNat : Nat) : Int) = j := by omega
    exact ⟨j.toNat, List.mem_filter.mpr ⟨List.mem_range.mpr (by omega), by rw [e]; simp [h3]⟩, e⟩
theorem offC_in (m : Nat) (d : List Int) : offC m d ∈ choicesL m := choices_mem (by
  unfold offC
  rw [List.pairwise_map]
  exact (List.pairwise_lt_range.filter _).imp fun {a b} h => by omega) fun j hj => (offC_mem.mp hj).1
end Dt

/-! # Dt: texts -/
namespace Dt
open PySem PySem.Spec PyProof.Rows L2
theorem digits_head : ∀ (k m : Nat), m ≤ k → 0 < m → ∃ c r, Nat.toDigits 10 m = c :: r ∧ c ≠ '0' := by
  intro k
  induction k with
  | zero => intro m h0 h1; omega
  | succ k ih =>
    intro m h0 h1
    by_cases hm : m < 10
    · refine ⟨_, [], Nat.toDigits_of_lt_base hm, ?_⟩
      revert h1
      revert hm
      revert m
      intro m _ hm h1
      have : m = 1 ∨ m = 2 ∨ m = 3 ∨ m = 4 ∨ m = 5 ∨ m = 6 ∨ m = 7 ∨ m = 8 ∨ m = 9 := by omega
      rcases this with rfl | rfl | rfl | rfl | rfl | rfl | rfl | rfl | rfl <;> decide
    · have hd : m % 10 < 10 := Nat.mod_lt _ (by decide)
      have t : Nat.toDigits 10 (m / 10) ++ Nat.toDigits 10 (m % 10) = Nat.toDigits 10 (10 * (m / 10) + m % 10) := Nat.toDigits_append_toDigits (by decide) (by omega) hd
      rw [Nat.div_add_mod] at t
      obtain ⟨c, r, e, hc⟩ := ih (m / 10) (by omega) (by omega)
      exact ⟨c, r ++ Nat.toDigits 10 (m % 10), by rw [← t, e]; rfl, hc⟩
theorem numS_head {n : Int} (h : 1 ≤ n) : ∃ c r, (numS n).cps.toList = c :: r ∧ c ≠ 48 := by
  obtain ⟨c, r, e, hc⟩ := digits_head n.toNat n.toNat (Nat.le_refl _) (by omega)
  refine ⟨c.toNat, r.map Char.toNat, by rw [numS_signs (by omega), e]; rfl, fun z => hc ?_⟩
  have : Char.ofNat c.toNat = Char.ofNat 48 := by rw [z]
  rw [Char.ofNat_toNat] at this
  exact this
theorem head_split {c : Nat} : ∀ {x y r s : List Nat}, c ∉ x → c ∉ y → x ++ c :: r = y ++ c :: s → x = y ∧ r = s
  | [], [], r, s, _, _, h => ⟨rfl, by simpa using h⟩
  | [], b :: y, r, s, _, hy, h => by
    have : c = b := (List.cons.inj h).1
    exact absurd (by simp [this]) hy
  | a :: x, [], r, s, hx, _, h => by
    have : a = c := (List.cons.inj h).1
    exact absurd (by simp [this]) hx
  | a :: x, b :: y, r, s, hx, hy, h => by
    obtain ⟨h1, h2⟩ := List.cons.inj h
    obtain ⟨h3, h4⟩ := head_split (fun z => hx (List.mem_cons_of_mem _ z)) (fun z => hy (List.mem_cons_of_mem _ z)) h2
    exact ⟨by rw [h1, h3], h4⟩
theorem glu_inj {c : Nat} : ∀ {xs ys : List (List Nat)}, xs ≠ [] → ys ≠ [] → (∀ x ∈ xs, c ∉ x) → (∀ y ∈ ys, c ∉ y) → gluL c xs = gluL c ys → xs = ys
  | [], _, h, _, _, _, _ => absurd rfl h
  | _, [], _, h, _, _, _ => absurd rfl h
  | [x], [y], _, _, _, _, h => by rw [show x = y from h]
  | [x], y :: z :: r, _, _, hx, _, h => by
    have h : x = y ++ c :: gluL c (z :: r) := h
    exact absurd (by rw [h]; simp) (hx x (by simp))
  | x :: z :: r, [y], _, _, _, hy, h => by
    have h : x ++ c :: gluL c (z :: r) = y := h
    exact absurd (by rw [← h]; simp) (hy y (by simp))
  | x :: z :: r, y :: u :: s, _, _, hx, hy, h => by
    have h : x ++ c :: gluL c (z :: r) = y ++ c :: gluL c (u :: s) := h
    obtain ⟨h1, h2⟩ := head_split (hx x (by simp)) (hy y (by simp)) h
    have := glu_inj (xs := z :: r) (ys := u :: s) (by simp) (by simp) (fun w hw => hx w (List.mem_cons_of_mem _ hw)) (fun w hw => hy w (List.mem_cons_of_mem _ hw)) h2
    rw [h1, this]
theorem split_ne (x : Str) (c : Nat) : Txt.split x ⟨#[c]⟩ ≠ [] := by
  unfold Txt.split
  split
  · simp
  · split
    · simp
    · unfold Builtin.Str.partsBetween
      simp
theorem split_join {c : Nat} {ys : List Str} (h0 : ys ≠ []) (h : ∀ y ∈ ys, c ∉ y.cps.toList) : Txt.split (Txt.join ⟨#[c]⟩ ys) ⟨#[c]⟩ = ys := by
  have e : Txt.join ⟨#[c]⟩ (Txt.split (Txt.join ⟨#[c]⟩ ys) ⟨#[c]⟩) = Txt.join ⟨#[c]⟩ ys := (StrLaws.glued_eq_join _ _).trans (StrLaws.join_split _ _)
  have e2 := congrArg (fun s : Str => s.cps.toList) e
  simp only [glu_join] at e2
  have e3 := glu_inj (c := c) (fun z => split_ne _ c (List.map_eq_nil_iff.mp z)) (fun z => h0 (List.map_eq_nil_iff.mp z)) (fun x hx => by
    obtain ⟨p, hp, rfl⟩ := List.mem_map.mp hx
    exact StrLaws.split_free _ c p hp) (fun y hy => by
    obtain ⟨p, hp, rfl⟩ := List.mem_map.mp hy
    exact h p hp) e2
  have inj : ∀ {a b : Str}, a.cps.toList = b.cps.toList → a = b := fun {a b} q => by
    cases a; cases b
    simp only [Array.toList_inj] at q
    rw [show _ = _ from q]
  exact List.map_inj_right (fun a b q => inj q) |>.mp e3
theorem eqv_S (a b : Str) : PyData.eqv (.str a) (.str b) = decide (a = b) := by
  by_cases h : a = b <;> simp [PyData.eqv, h]
theorem eqvT_S {a b : Str} (h : a = b) : PyData.eqv (.str a) (.str b) = true := by rw [eqv_S, decide_eq_true h]
theorem sh_S {a : Str} (h : PyData.strOk a = true) : SeqAt.shaped (.str a) = true := by
  unfold SeqAt.shaped PyData.canLay0
  simp [PyData.depth, h]
theorem glu_mem {c : Nat} : ∀ {xs : List (List Nat)} {x : List Nat} {d : Nat}, x ∈ xs → d ∈ x → d ∈ gluL c xs
  | [y], x, d, hx, hd => by rw [List.mem_singleton.mp hx] at hd; exact hd
  | y :: z :: r, x, d, hx, hd => by
    show d ∈ y ++ c :: gluL c (z :: r)
    rcases List.mem_cons.mp hx with e | hx
    · rw [e] at hd; exact List.mem_append_left _ hd
    · exact List.mem_append_right _ (List.mem_cons_of_mem _ (glu_mem hx hd))
theorem split_mem {t w : Str} {c d : Nat} (hw : w ∈ Txt.split t ⟨#[c]⟩) (hd : d ∈ w.cps.toList) : d ∈ t.cps.toList := by
  have e : Txt.join ⟨#[c]⟩ (Txt.split t ⟨#[c]⟩) = t := (StrLaws.glued_eq_join _ _).trans (StrLaws.join_split _ _)
  have e2 := glu_join c (Txt.split t ⟨#[c]⟩)
  rw [e] at e2
  rw [e2]
  exact glu_mem (List.mem_map.mpr ⟨w, hw, rfl⟩) hd
theorem okW_num {n : Int} (h1 : 1 ≤ n) (h2 : n < 10 ^ 60) : okW (numS n) = true := by
  obtain ⟨c, r, e, hc⟩ := numS_head h1
  have hl := numS_len (k := 60) (by decide) (by omega) h2
  unfold okW
  simp only [Bool.and_eq_true, Bool.not_eq_true', decide_eq_false_iff_not, decide_eq_true_iff, List.all_eq_true]
  refine ⟨⟨⟨fun z => ?_, ?_⟩, hl⟩, fun d hd => ?_⟩
  · rw [z] at e
    have e : ([] : List Nat) = c :: r := e
    cases e
  · rw [e]
    simp [hc]
  · have := numS_digit (n := n) (by omega) d hd
    unfold digB
    simp [this]
theorem valW_num {n : Int} (h : 0 ≤ n) : valW (numS n) = n := by
  unfold valW
  rw [numS_signs h, PySem.W.KIN.val_back]
  omega
theorem down_heap : ∀ {h : Heap1}, h.Pairwise (fun a b => b ≤ a) → downB h = true
  | [], _ => rfl
  | [x], _ => rfl
  | x :: y :: r, hp => by
    have ih := down_heap (h := y :: r) (List.pairwise_cons.mp hp).2
    have h1 := (List.pairwise_cons.mp hp).1 y (by simp)
    unfold downB at ih ⊢
    show ((x, y) :: (y :: r).zip r).all _ = true
    rw [List.all_cons]
    have e : ((y :: r).zip r).all (fun p : Int × Int => !decide (p.1 < p.2)) = true := ih
    rw [e]
    simp
    omega
theorem readW_heap {h : Heap1} (hl : h.length ≤ 60) (hx : ∀ x ∈ h, 1 ≤ x ∧ x < 10 ^ 60) (hd : h.Pairwise (fun a b => b ≤ a)) : readW (heapS h) = some h := by
  unfold readW heapS
  by_cases h0 : h = []
  · rw [if_pos h0, if_pos rfl, h0]
  · rw [if_neg h0]
    have sj : Txt.split (Txt.join " " (h.map numS)) " " = h.map numS := split_join (c := 32) (fun z => h0 (List.map_eq_nil_iff.mp z)) fun y hy => by
      obtain ⟨x, hx', rfl⟩ := List.mem_map.mp hy
      intro z
      have := numS_digit (n := x) (by have := hx x hx'; omega) 32 z
      omega
    have nn : ¬ Txt.join " " (h.map numS) = "none" := fun z => by
      rw [z] at sj
      obtain ⟨x, r, e⟩ := List.exists_cons_of_ne_nil h0
      have hn : numS x ∈ Txt.split "none" " " := by rw [sj, e]; simp
      obtain ⟨c, q, e2⟩ : ∃ c q, (numS x).cps.toList = c :: q := by
        obtain ⟨c, q, e2, _⟩ := numS_head (n := x) (by have := hx x (by rw [e]; simp); omega)
        exact ⟨c, q, e2⟩
      have hm := split_mem (c := 32) (d := c) hn (by rw [e2]; simp)
      have hg := numS_digit (n := x) (by have := hx x (by rw [e]; simp); omega) c (by rw [e2]; simp)
      have hc : c ∈ [110, 111, 110, 101] := hm
      simp only [List.mem_cons, List.not_mem_nil, or_false] at hc
      omega
    rw [if_neg nn, sj, List.length_map, if_neg (by omega)]
    have e1 : (h.map numS).all okW = true := List.all_eq_true.mpr fun y hy => by
      obtain ⟨x, hx', rfl⟩ := List.mem_map.mp hy
      exact okW_num (hx x hx').1 (hx x hx').2
    have e2 : (h.map numS).map valW = h := by
      rw [List.map_map]
      have : ∀ x ∈ h, (valW ∘ numS) x = x := fun x hx' => valW_num (by have := hx x hx'; omega)
      exact (List.map_congr_left this).trans (List.map_id h)
    rw [e1, e2, down_heap hd]
    rfl
end Dt

/-! # Dt: more of texts -/
namespace Dt
open PySem PySem.Spec PyProof.Rows L2
theorem cutS_list (z : Str) (lo hi : Option Int) : (cutS z lo hi).cps.toList = cut z.cps.toList lo hi := by
  unfold cutS cut
  rw [Array.length_toList]
  rfl
end Dt

/-! # Dt: rows of dots -/
namespace Dt
open PySem PySem.Spec PyProof.Rows L2
theorem noLs_strs : ∀ ss : List Str, noLs (ss.map PyData.str) = true
  | [] => rfl
  | s :: ss => by
    have ih := noLs_strs ss
    simp only [List.map_cons, noLs, ih, noL, Bool.and_self]
end Dt

/-! # Dt: texts split by three signs -/
namespace Dt
open PySem PySem.Spec PyProof.Rows L2 PySem.StrLaws
theorem TxH.reads {h : Heap1} (d : TxH h) : readW (heapS h) = some h := readW_heap d.len (fun x hx => ⟨d.heap.2 x hx, d.top x hx⟩) d.heap.1
end Dt

/-! # Dt: rules made of lanes are alike -/
namespace Dt
open PySem PySem.Spec PyProof.Rows L2
theorem jS_parts {r : List Heap1} {c : List Int} {ds : List Int} (nd : ds.Nodup) (hc : okC r.length c) (h : ∀ g ∈ r, ∀ x ∈ g, x ∈ ds) : jS r c = (ds.map fun x => x * (mxC (pickC r c) x : Nat)).sum := by
  unfold jS
  rw [sum_byC ds nd fun x hx => ?_]
  · refine sum_congr fun x _ => ?_
    rw [joinL_count]
  · obtain ⟨g, hg, hx⟩ := joinL_mem.mp hx
    exact h g (pickC_mem hc g hg) x hx
end Dt

/-! # Dt: dicts of counts -/
namespace Dt
open PySem PySem.Spec PyProof.Rows L2
def iDk (ps : List (Int × Int)) : List (Key × D) := ps.map fun q => (.inl q.1, .int q.2)
def pP (ps : List (Int × Int)) (k v : Int) : List (Int × Int) := if (ps.any fun q => decide (q.1 = k)) = true then ps.map (fun q => if q.1 = k then (q.1, v) else q) else ps ++ [(k, v)]
theorem valD_iDk : ∀ (ps : List (Int × Int)) (k : Int), (valD (iDk ps) (.inl k)).getD (.int 0) = .int (vP ps k)
  | [], _ => rfl
  | q :: ps, k => by
    have ih := valD_iDk ps k
    by_cases e : q.1 = k
    · subst e
      simp [iDk, valD, vP]
    · have e2 : ¬ ((Sum.inl q.1 : Key) = .inl k) := fun z => e (by cases z; rfl)
      have a1 : valD (iDk (q :: ps)) (.inl k) = valD (iDk ps) (.inl k) := by simp [iDk, valD, List.find?_cons, e]
      have a2 : vP (q :: ps) k = vP ps k := by simp [vP, List.find?_cons, e]
      rw [a1, a2, ih]
theorem putD_iDk (ps : List (Int × Int)) (k v : Int) : putD (iDk ps) (.inl k) (.int v) = iDk (pP ps k v) := by
  have e1 : ((iDk ps).any fun kv => decide (kv.1 = Sum.inl k)) = (ps.any fun q => decide (q.1 = k)) := by
    unfold iDk
    rw [List.any_map]
    refine congrArg (ps.any ·) (funext fun q => ?_)
    exact decide_eq_decide.mpr ⟨fun z => by cases z; rfl, fun z => congrArg Sum.inl z⟩
  unfold putD pP
  rw [e1]
  split
  · unfold iDk
    rw [List.map_map, List.map_map]
    refine List.map_congr_left fun q _ => ?_
    by_cases e : q.1 = k
    · simp [e]
    · have e2 : ¬ ((Sum.inl q.1 : Key) = .inl k) := fun z => e (by cases z; rfl)
      simp [e]
  · unfold iDk
    rw [List.map_append]
    rfl
theorem pP_mem {ps : List (Int × Int)} {k v x : Int} : x ∈ (pP ps k v).map (·.1) ↔ x = k ∨ x ∈ ps.map (·.1) := by
  unfold pP
  split
  · rename_i h
    obtain ⟨q, hq, e⟩ := List.any_eq_true.mp h
    have e : q.1 = k := of_decide_eq_true e
    have em : (ps.map (fun q => if q.1 = k then (q.1, v) else q)).map (·.1) = ps.map (·.1) := by
      rw [List.map_map]
      refine List.map_congr_left fun u _ => ?_
      show (if u.1 = k then (u.1, v) else u).1 = u.1
      split <;> rfl
    rw [em]
    exact ⟨.inr, fun z => z.elim (fun z => List.mem_map.mpr ⟨q, hq, by rw [z, e]⟩) id⟩
  · rw [List.map_append, List.mem_append]
    simp only [List.map_cons, List.map_nil, List.mem_singleton]
    exact ⟨fun z => z.symm, fun z => z.symm⟩
theorem pP_nodup {ps : List (Int × Int)} {k v : Int} (nd : (ps.map (·.1)).Nodup) : ((pP ps k v).map (·.1)).Nodup := by
  unfold pP
  split
  · have em : (ps.map (fun q => if q.1 = k then (q.1, v) else q)).map (·.1) = ps.map (·.1) := by
      rw [List.map_map]
      refine List.map_congr_left fun u _ => ?_
      show (if u.1 = k then (u.1, v) else u).1 = u.1
      split <;> rfl
    rw [em]
    exact nd
  · rename_i h
    rw [List.map_append, List.nodup_append]
    refine ⟨nd, by simp, fun a ha b hb => ?_⟩
    have hb : b = k := by simpa using hb
    subst hb
    intro e
    subst e
    obtain ⟨q, hq, e⟩ := List.mem_map.mp ha
    exact h (List.any_eq_true.mpr ⟨q, hq, decide_eq_true e⟩)
theorem pP_len {ps : List (Int × Int)} {k v : Int} : (pP ps k v).length ≤ ps.length + 1 := by
  unfold pP
  split
  · rw [List.length_map]; omega
  · rw [List.length_append]; simp
theorem vP_pP (ps : List (Int × Int)) (k v j : Int) : vP (pP ps k v) j = if j = k then v else vP ps j := by
  have h := valD_iDk (pP ps k v) j
  rw [← putD_iDk, valD_put] at h
  by_cases e : j = k
  · subst e
    rw [if_pos rfl] at h ⊢
    exact (PyData.int.inj h).symm
  · rw [if_neg (fun z => e (by cases z; rfl)), valD_iDk] at h
    rw [if_neg e]
    exact (PyData.int.inj h).symm
theorem CntP.snoc {h : List Int} {ps : List (Int × Int)} (C : CntP h ps) (x : Int) : CntP (h ++ [x]) (pP ps x (vP ps x + 1)) := by
  refine ⟨pP_nodup C.nd, fun y => ?_, fun y hy => ?_, ?_⟩
  · rw [vP_pP, List.count_append]
    by_cases e : y = x
    · subst e
      rw [if_pos rfl, C.val, List.count_singleton_self]
      push_cast
      omega
    · rw [if_neg e, C.val, List.count_singleton, if_neg (by simpa using Ne.symm e)]
      simp
  · rcases pP_mem.mp hy with e | e
    · simp [e]
    · exact List.mem_append.mpr (.inl (C.mem y e))
  · have := pP_len (ps := ps) (k := x) (v := vP ps x + 1)
    have := C.len
    rw [List.length_append]
    simp
    omega
/-- the counts of a row -/
def cntR (h : List Int) : List (Int × Int) := h.foldl (fun ps x => pP ps x (vP ps x + 1)) []
theorem cntR_snoc (h : List Int) (x : Int) : cntR (h ++ [x]) = pP (cntR h) x (vP (cntR h) x + 1) := by
  unfold cntR
  rw [List.foldl_append]
  rfl
theorem cntR_ok (h : List Int) : CntP h (cntR h) := by
  have key : ∀ (t p : List Int), p ++ t = h → CntP p (cntR p) → CntP h (cntR h) := fun t => by
    induction t with
    | nil => intro p e c; rw [List.append_nil] at e; subst e; exact c
    | cons x t ih =>
      intro p e c
      refine ih (p ++ [x]) (by rw [← e]; simp) ?_
      rw [cntR_snoc]
      exact c.snoc x
  exact key h [] rfl CntP.nil
/-- within a row: u of its counts are done -/
structure MxQ (gs : List (List Int)) (g : List Int) (u ps : List (Int × Int)) : Prop where
  nd : (ps.map (·.1)).Nodup
  val : ∀ x, vP ps x = max ((mxC gs x : Nat) : Int) (vP u x)
  mem : ∀ x ∈ ps.map (·.1), x ∈ g ∨ ∃ g ∈ gs, x ∈ g
  len : ps.length ≤ (gs.map List.length).sum + u.length
theorem MxP.start {gs : List (List Int)} {ps : List (Int × Int)} (M : MxP gs ps) (g : List Int) : MxQ gs g [] ps := by
  refine ⟨M.nd, fun x => ?_, fun x hx => .inr (M.mem x hx), by simpa using M.len⟩
  rw [M.val]
  have : vP [] x = 0 := rfl
  omega
theorem vP_snoc {u : List (Int × Int)} {q : Int × Int} (nd : ((u ++ [q]).map (·.1)).Nodup) (x : Int) : vP (u ++ [q]) x = if x = q.1 then q.2 else vP u x := by
  by_cases e : x = q.1
  · subst e
    rw [if_pos rfl]
    exact vP_mem nd q (by simp)
  · rw [if_neg e]
    have e' : ¬ q.1 = x := fun z => e z.symm
    unfold vP
    rw [List.find?_append]
    have : [q].find? (fun q => decide (q.1 = x)) = none := by simp [e']
    rw [this, Option.or_none]
theorem MxQ.step {gs : List (List Int)} {g : List Int} {u ps : List (Int × Int)} (M : MxQ gs g u ps) {q : Int × Int} (nd : ((u ++ [q]).map (·.1)).Nodup) (hq : q.1 ∈ g) : MxQ gs g (u ++ [q]) (pP ps q.1 (max q.2 (vP ps q.1))) := by
  have hu : q.1 ∉ u.map (·.1) := by
    rw [List.map_append, List.nodup_append] at nd
    intro z
    exact nd.2.2 _ z q.1 (by simp) rfl
  refine ⟨pP_nodup M.nd, fun x => ?_, fun x hx => ?_, ?_⟩
  · rw [vP_pP, vP_snoc nd]
    by_cases e : x = q.1
    · subst e
      rw [if_pos rfl, if_pos rfl, M.val, vP_none hu]
      have : (0 : Int) ≤ ((mxC gs q.1 : Nat) : Int) := by omega
      omega
    · rw [if_neg e, if_neg e, M.val]
  · rcases pP_mem.mp hx with e | e
    · exact .inl (e ▸ hq)
    · exact M.mem x e
  · have := pP_len (ps := ps) (k := q.1) (v := max q.2 (vP ps q.1))
    have := M.len
    rw [List.length_append]
    simp
    omega
theorem MxQ.done {gs : List (List Int)} {g : List Int} {ps : List (Int × Int)} (M : MxQ gs g (cntR g) ps) : MxP (gs ++ [g]) ps := by
  have C := cntR_ok g
  refine ⟨M.nd, fun x => ?_, fun x hx => ?_, ?_⟩
  · rw [M.val, C.val]
    have e : mxC (gs ++ [g]) x = max (mxC gs x) (g.count x) := by
      refine Nat.le_antisymm (mxC_le fun w hw => ?_) (Nat.max_le.mpr ⟨mxC_le fun w hw => ?_, ?_⟩)
      · rcases List.mem_append.mp hw with hw | hw
        · have := mxC_ge hw x; omega
        · rw [List.mem_singleton.mp hw]; omega
      · exact mxC_ge (List.mem_append.mpr (.inl hw)) x
      · exact mxC_ge (List.mem_append.mpr (.inr (by simp))) x
    rw [e]
    omega
  · rcases M.mem x hx with h | ⟨g', h1, h2⟩
    · exact ⟨g, by simp, h⟩
    · exact ⟨g', by simp [h1], h2⟩
  · have := M.len
    have := C.len
    rw [List.map_append, List.sum_append]
    simp
    omega
end Dt

/-! # Dt: calls that lend several things -/
namespace Dt
open PySem PySem.Spec PyProof.Rows L2
section
variable {p : Pm} {F F' F0 : Lab} {I I' I0 H0 H1 H H' : Hp} {σ : L2.St} {ρ ρ' : Rho} {v : V} {o : O} {d : D} {c c' : C} {W : WX}
theorem LendR.nodup {vs : List V} {js : List Nat} {ss : List S} (L : LendR p F I H σ ρ vs js ss) : js.Nodup := by
  induction L with
  | nil _ => simp
  | cons _ _ _ n _ ih => exact List.nodup_cons.mpr ⟨n, ih⟩
end
end Dt

/-! # Dt: exceptions raised where nothing is handled; try .. except .. raise from None -/
namespace DtN
open PySem PySem.Spec PyProof.Rows L2 Dt
/-! ### defs that raise where nothing is handled -/
section
variable {X : Cx} {G : V → Nat → Option Addr → Prop} {W : WX} {pos pos' : Pos} {a : Expr} {es : List Expr} {g : DA} {k : Nat} {x : Str} {f : Addr} {fd : FuncData} {ps : List Str} {sp : DSp}
theorem e_call (F : FnOk X.prog X.w X.K X.mg X.base (L2N.CX X.prog X.w) k f fd ps (spOf (pm X G) sp)) (tk : L2N.Takes X W) (hr : Room k X.A) (hg : Gl X x) (hm : X.mg x = some (.ref f)) (hk : PySem.W.keepIn X.K (.ref f) = true) (hb : Binds X.K fd ps [])
    (ha : PAd X G W (a :: es) g) (hdb : (x == ("__debug__" : Str)) = false := by decide) (he : starEach (a :: es) X.env = (false, eval a X.env) :: starEach es X.env := by rfl) (hpl : (backTo pos (starEach es X.env)).any (·.1) = false := by rfl) :
    PEd X G W (.Call (.Name x pos') (a :: es) [] pos) (dCall sp g) := PE.weak (pe_callS (E := WE W) F hr hg hm hk hb (fun σ => L2N.passAt tk σ) ha hdb he hpl) w_call
end
section
variable {X : Cx} {W : WX} {pos pos2 p p2 : Pos} {ks : List Nat} {ca : Nat → Addr}
theorem z_raise {n j : Nat} {x m : Str} (xf : XF X.K X.mg ks ca) (hc : X.calm = true) (tk : L2N.Takes X W) (hn : n ∈ ks) (h16 : n ≤ 16) (hx : x = exN n) (hg : Gl X x) (hd : (x == ("__debug__" : Str)) = false := by decide) :
    PSd X noG W (.Raise (some (.Call (.Name x p) [.Constant (.str m) j p2] [] pos)) none pos2) (dRaise n) :=
  PS.weak (L2N.ps_raise hc tk (L2N.pmk_own PySem.F.excBase_ValueError (xf.own n hn h16) (by rw [hx]; exact xf.has n hn) (xf.kp n hn) (raises_own (xf.sub n hn) (xf.typ n hn)) hg hd)) fun D σ H q => by
    obtain ⟨F, I, ρ, E, R, f1, k⟩ := q
    exact k.ex ⟨n, []⟩ ρ _ _ σ F I H f1 (Step.refl ..) R ⟨_, xf.has n hn, rfl, .inl ⟨rfl, rfl⟩⟩
end
section
variable {P : Program} {w : World} {K : PySem.W.Frag} {mg : Str → Option Value} {base : Heap}
theorem fn_dt {x qual : Str} {st : Stmt} {f : Addr} {fd : FuncData} {N ps : List Str} {k : Nat} {sp : DSp} {b : DS} (F : Fun K x qual st f fd) (hS : FnScope N ps (defScope st)) (hl : ∀ os PP PX, sp os PP PX → os.length = ps.length)
    (hd : ∀ (cdv : Value) (A : Around) (outer : List Env) (s : Shared) (H : Hp) (E : XK), Room k (A.deeper (envOfC qual (defScope st) s.heap.objs.size f cdv)) →
      PSsd (cxOf (L2N.CX P w) P w K mg base N qual (defScope st) f cdv A outer s H E) noG (fun cls d _ H => E cls d H) (defBody st) b)
    (hb : ∀ os PP PX, sp os PP PX → b (endsOf os PP PX) (rho0 N.length os)) : FnOk P w K mg base (L2N.CX P w) (k + 1) f fd ps (spOf ⟨K, mg, noG⟩ sp) := by
  obtain ⟨oc, od, kV, doc, pm, an, cdv, ct, osl, rfl, lk, hcd⟩ := F.ex
  refine fn_of lk hcd hS (fun vs H Q E h => ?_) fun A outer s H vs Q E hr h => ⟨_, hd cdv A outer s H E hr, body_ok hb h⟩
  obtain ⟨F, I, os, PP, PX, R, hF, hsp, _⟩ := h
  have e := R.len
  rw [List.length_map, List.length_map] at e
  rw [← hl os PP PX hsp, e]
end
end DtN

/-! # Dt: what the desk does, without the program -/
namespace Dt
open PySem PySem.Spec PyProof.Rows L2
def bkv (b : Book) : List (Key × D) := b.map fun q => (.inr q.1, rD q.2)
def bkD (b : Book) : D := dcD (bkv b)
theorem unk_in {b : Book} {k : List (Key × D) → Prop} (h : k (bkv b)) : (match unkD ((bkv b).map fun q => (keyD q.1, q.2)) with
  | some kvs => k kvs
  | none => False) := by rw [unkD_map]; exact h
def deskC (D : DeskS) : C := .desk (bkD D.held) (D.past.map bkD) (D.ahead.map bkD)
@[irreducible] def bookK (d : D) (k : Book → Prop) : Prop := ∃ b, d = bkD b ∧ k b
theorem bookK_in {b : Book} {k : Book → Prop} (h : k b) : bookK (bkD b) k := by unfold bookK; exact ⟨b, rfl, h⟩
@[irreducible] def bkvK (d : List (Key × D)) (k : Book → Prop) : Prop := ∃ b, d = bkv b ∧ k b
theorem bkvK_in {b : Book} {k : Book → Prop} (h : k b) : bkvK (bkv b) k := by unfold bkvK; exact ⟨b, rfl, h⟩
@[irreducible] def deskK (c : C) (k : DeskS → Prop) : Prop := ∃ D, c = deskC D ∧ k D
theorem deskK_in {D : DeskS} {k : DeskS → Prop} (h : k D) : deskK (.desk (bkD D.held) (D.past.map bkD) (D.ahead.map bkD)) k := by unfold deskK; exact ⟨D, rfl, h⟩
def unlD : Option (Heap1 × Int × Int) → D
  | none => .none
  | some (c, x, y) => .tuple [hD c, .int x, .int y]
theorem OkBk.del {b : Book} (ok : OkBk b) (n : Str) : OkBk (bDel b n) :=
  ⟨Nat.le_trans (List.length_filter_le _ _) ok.few, fun q hq => ok.rule q (List.mem_filter.mp hq).1, fun q hq => ok.name q (List.mem_filter.mp hq).1⟩
end Dt

/-! # Dt: lines told to the desk -/
namespace Dt
open PySem PySem.Spec PyProof.Rows L2
theorem DeskN.del {n m : Nat} {D : DeskS} (h : DeskN n m D) {x : Str} : DeskN (n + 1) m ⟨bDel D.held x, D.past ++ [D.held], []⟩ := by
  have hh := h.bk _ (.inl rfl)
  refine ⟨fun b hb => ?_, by have := h.ln; simp only [List.length_append, List.length_cons, List.length_nil]; omega⟩
  rcases hb with rfl | hb | hb
  · exact ⟨hh.1.del x, Nat.le_trans (List.length_filter_le _ _) hh.2⟩
  · rcases List.mem_append.mp hb with hb | hb
    · exact h.bk b (.inr (.inl hb))
    · rw [List.mem_singleton.mp hb]; exact hh
  · cases hb
theorem DeskN.start : DeskN 0 0 ⟨[], [], []⟩ := by
  refine ⟨fun b hb => ?_, Nat.le_refl _⟩
  rcases hb with rfl | hb | hb
  · exact ⟨⟨Nat.zero_le _, by simp, by simp⟩, Nat.le_refl _⟩
  · cases hb
  · cases hb
theorem NmP.le {a b c d : Nat} {x : Str} (h : NmP a b x) (h1 : c ≤ a) (h2 : b ≤ d) : NmP c d x := ⟨h.low, Nat.le_trans h1 h.least, Nat.le_trans h.most h2⟩
theorem NmP.pre {a b k : Nat} {x : Str} (h : NmP a b x) : NmP (min k a) (min k b) (cutS x none (some (k : Int))) := by
  have e : (cutS x none (some (k : Int))).cps.toList = x.cps.toList.take k := by rw [cutS_list, cut_take _ (by omega), Int.toNat_natCast]
  refine ⟨fun c hc => ?_, ?_, ?_⟩
  · rw [e] at hc
    exact h.low c (List.mem_of_mem_take hc)
  · rw [len_list, e, List.length_take, ← len_list]; have := h.least; omega
  · rw [len_list, e, List.length_take, ← len_list]; have := h.most; omega
end Dt

/-! # Dt: two own things at once; a name's own list becomes data ahead of a statement -/
namespace Dt
open PySem PySem.Spec PyProof.Rows L2
/-! ### desks and books bear no lists -/
theorem noL_bkD (b : Book) : noL (bkD b) = true := by
  unfold bkD dcD noL
  rw [noLp]
  refine Bool.and_eq_true_iff.mpr ⟨rfl, ?_⟩
  induction b with
  | nil => rfl
  | cons q b ih =>
    show (noL (rD q.2) && noLp _) = true
    rw [noL_rule]
    exact ih
theorem noLC_bkv (b : Book) : noLC (.dic (bkv b)) = true := by
  show (bkv b).all (fun q => noL q.2) = true
  rw [List.all_eq_true]
  intro q hq
  obtain ⟨u, _, rfl⟩ := List.mem_map.mp hq
  exact noL_rule _
theorem noLs_bks (bs : List Book) : noLs (bs.map bkD) = true := noLs_map noL_bkD bs
theorem noLC_desk (D : DeskS) : noLC (deskC D) = true := by
  show (noL (bkD D.held) && noLs (D.past.map bkD) && noLs (D.ahead.map bkD)) = true
  rw [noL_bkD, noLs_bks, noLs_bks]
  rfl
end Dt

/-! # Dt: calls that lend own things at any place, of defs that may hand one of them back -/
namespace Dt
open PySem PySem.Spec PyProof.Rows L2
/-- the arguments' slots behind the body; .own: the name stands for another thing by then, what was lent is lost -/
def kept (os : List S) : Rho := os.map fun s => match s with
  | .own _ => none
  | s => some s
end Dt

/-! # Dt: the head by one kernel run, the facts read by a Hook of my own -/
namespace Dt
open PySem PySem.Spec PyProof.Rows L2
section
variable {fa : List FrB} {fn : List He.DefD} {ts : List He.Tab} {w : World} {K : PySem.W.Frag} {mg : Str → Option Value} {h : Heap}
theorem SaysW.fact (c : SaysW fa fn ts w K) (i : Nat) {f : FrB} (e : fa[i]? = some f := by rfl) : f K = true := by
  have c1 := (He.ba (show ((fa.all fun f => f K) && fn.all fun d => d.ok K) = true from congrArg (fun z : He.AlT => z.1.1) c)).1
  exact List.all_eq_true.mp c1 f (List.mem_of_getElem? e)
theorem SaysW.def_ (c : SaysW fa fn ts w K) (i : Nat) {d : He.DefD} (h : fn[i]? = some d := by rfl) : ∃ fd, FunD K d.name d.qual d.params d.body d.scope (d.dvs K) (d.kws K) (He.fAd K d.at_) fd := by
  have c2 := (He.ba (show ((fa.all fun f => f K) && fn.all fun d => d.ok K) = true from congrArg (fun z : He.AlT => z.1.1) c)).2
  have e : fn.map (fun d => He.fnW K d.at_) = fn.map He.DefD.val := congrArg (fun z : He.AlT => z.1.2) c
  have e2 : (fn.map fun d => He.fnW K d.at_)[i]? = (fn.map He.DefD.val)[i]? := by rw [e]
  rw [List.getElem?_map, List.getElem?_map, h] at e2
  exact He.DefD.funD (Option.some.inj e2) (List.all_eq_true.mp c2 d (List.mem_of_getElem? h))
theorem fun_of {x qual : Str} {st : Stmt} {f : Addr} {fd : FuncData} (F : FunD K x qual (defArgs st) (defBody st) (defScope st) [] [] f fd) : Fun K x qual st f fd := by
  obtain ⟨oc, od, dV, kV, doc, pm, an, cdv, ct, osl, e, lk, hc, hd, hk⟩ := F.ex
  have e0 : dV = .none := by
    rcases hd with ⟨a, _⟩ | ⟨a, _⟩
    · first | exact a | assumption
    · exact absurd rfl a
  subst e0
  exact ⟨⟨oc, od, kV, doc, pm, an, cdv, ct, osl, e, lk, hc⟩, F.kp⟩
theorem SaysW.fun_ (c : SaysW fa fn ts w K) (i : Nat) (at_ : Str × Option Str) (q1 q2 : Str) (st : Stmt) (h : fn[i]? = some (dF at_ q1 q2 st)) : ∃ fd, Fun K q1 q2 st (He.fAd K at_) fd := by
  obtain ⟨fd, F⟩ := c.def_ i h
  exact ⟨fd, fun_of F⟩
theorem binds_of {x qual : Str} {st : Stmt} {f : Addr} {fd : FuncData} {ps : List Str} (F : Fun K x qual st f fd)
    (h : ∀ (kV doc pm : Value) (an : Option Addr) (cdv ct : Value) (us : List Value), us.length = ps.length → bindArgs (PySem.W.fnOf x qual (defArgs st) (defBody st) (defScope st) .none kV doc pm an cdv ct) ⟨us, []⟩ = pure (ps.zip us)) (s : Shared) (us : List Value) (hl : us.length = ps.length) : BindsTo s fd ⟨us, []⟩ (ps.zip us) := by
  obtain ⟨oc, od, kV, doc, pm, an, cdv, ct, osl, rfl, lk, hcd⟩ := F.ex
  exact .of_eq (h kV doc pm an cdv ct us hl)
theorem all_at {α : Type} {p : α → Bool} {xs : List α} (h : xs.all p = true) (i : Nat) {x : α} (e : xs[i]? = some x) : p x = true := List.all_eq_true.mp h x (List.mem_of_getElem? e)
theorem glo_at (X : K.In h) (G : h.Ns mainGlobals mg) {xs : List Str} (c : glosB xs K = true) (i : Nat) {x : Str} (e : xs[i]? = some x := by rfl) : mg x = some (.ref (He.ga K x)) := He.glo_ok X G (all_at c i e)
theorem free_at (X : K.In h) (G : h.Ns mainGlobals mg) {xs : List Str} (c : freesB xs K = true) (i : Nat) {x : Str} (e : xs[i]? = some x := by rfl) : mg x = none := He.free_ok X G (all_at c i e)
theorem noat_at {x : Str} {fs : List Str} (c : noatB x fs K = true) (i : Nat) {f : Str} (e : fs[i]? = some f := by rfl) : NoAttr K (He.ga K x) f := He.noat_ok (all_at c i e)
theorem meth_at {x : Str} {ms : List Str} (c : methB x ms K = true) (i : Nat) {m : Str} (e : ms[i]? = some m := by rfl) : Meth K (He.ga K x) m (He.ma K (He.ga K x) m) := He.meth_ok (all_at c i e)
theorem xc_ok (X : K.In h) (G : h.Ns mainGlobals mg) {ks : List Nat} (c : xcB ks K = true) : XF K mg ks fun n => He.ga K (exN n) := by
  obtain ⟨c1, c2⟩ := He.ba c
  exact XF.mk_of (fun n hn => He.glo_ok X G (List.all_eq_true.mp c1 n hn)) c2
theorem xi_ok {x : Str} {fs : List Str} (c : xiB x fs K = true) : PySem.W.findIn K (.ref (He.ga K x)) "__init__" = some (some (.ref (He.ma K (He.ga K x) "__init__"))) ∧ PySem.W.typeIn K (.ref (He.ma K (He.ga K x) "__init__")) = some (.type "function") ∧ oexB K (He.ga K x) = true ∧ noatB x fs K = true := by
  obtain ⟨c1, c2⟩ := He.ba c
  obtain ⟨c3, c4⟩ := He.ba c1
  obtain ⟨c5, c6⟩ := He.ba c4
  exact ⟨He.eqO_ok c3, of_decide_eq_true c5, c6, c2⟩
end
/-- the law's end -/
theorem walk_ofW {l : PySem.W.OpenLaw} {n k : Nat} {q : Program} {loose : List Str} {XP : (Str → Option Value) → Heap → Prop} {YP : World → Heap → Prop} {d : DefRec} {CX : World → CXT} {x : Str}
    (hn : l.most = some n) (hn2 : n ≤ sizeLine) (hdf : d.params.defaults = []) (hr : Room k callerA)
    (F : ∀ (w : World) (mg : Str → Option Value) (fa : Addr) (h : Heap), YP w h → h.Ns mainGlobals mg → mg d.name = some (.ref fa) →
      ∃ (K : PySem.W.Frag) (fd : FuncData) (sp : Sp), K.In h ∧ (∀ (s : Shared) (u : Value), BindsTo s fd ⟨[u], []⟩ [(x, u)]) ∧
        (∀ (H : Hp) (a : Addr) (ns : List Int), ns.length ≤ n → Only H → SqL K H a (ns.map V.int) → sp [.ref a] H (fun v _ => v = .bl true) fun _ _ _ => False) ∧
        ∀ base : Heap, K.In base → base.Ns mainGlobals mg → FnOk l.prog w K mg base (CX w) k fa fd [x] sp)
    (hCX : ∀ (w : World) (H : Hp) (s : Shared) (e : Value) (s' : Shared), CX w [] H s (fun _ _ _ => False) e s' → False) :
    PySem.W.WalkO q loose XP YP l.row.toRowW d [] (fun f vs => PySem.call f vs) := by
  refine Att.attach_call hn hdf fun w s0 s1 mg mb fa o pm cd doc a vs ns G Y ho hd hcd hmg hobj hints hlen hg => ?_
  obtain ⟨K, fd, sp, KX, hb, hsp, hF⟩ := F w mg fa _ Y G.T.g hmg
  exact law_call KX G.T.g G.T.b G.T.builtins G.T.nolimit hg hobj hints (Nat.le_trans hlen hn2) hr hF hb (fun H hO hS => hsp H a ns hlen hO hS) fun H e s' => hCX w H s1 e s'
end Dt

/-! # Dt: lines of two names: match, send, steps -/
namespace Dt
open PySem PySem.Spec PyProof.Rows L2
section
variable {D : DeskS} {w v n m : Str} {r s : List Heap1} {h : Heap1}
theorem unl_mates {k : Nat} (M : Mates k r s) : unlO r s = none := List.findSome?_eq_none_iff.mpr fun c hc => if_pos (M.same c (choicesL_mem hc))
end
end Dt

/-! # Dt: lists backwards, with bounds -/
namespace Dt
open PySem PySem.Spec PyProof.Rows L2
theorem getK_1 {α : Type} {d e : α} {ds : List α} {k : α → Prop} (q : k e) : getK (atI (d :: e :: ds) 1) k := getK_in (atI_nat (j := 1) (by rfl)) q
theorem getK_2 {α : Type} {d e f : α} {ds : List α} {k : α → Prop} (q : k f) : getK (atI (d :: e :: f :: ds) 2) k := getK_in (atI_nat (j := 2) (by rfl)) q
end Dt

/-! # Dt: lists of own lists -/
namespace Dt
open PySem PySem.Spec PyProof.Rows L2
/-! ### defs with a default -/
section
variable {P : Program} {w : World} {K : PySem.W.Frag} {mg : Str → Option Value} {base : Heap} {x qual : Str} {st : Stmt} {f : Addr} {fd : FuncData} {N ps : List Str} {k : Nat} {sp : DSp} {b : DS} {dvs : List V}
theorem fn_dtD (F : FunD K x qual (defArgs st) (defBody st) (defScope st) dvs [] f fd) (hS : FnScope N ps (defScope st)) (hl : ∀ os PP PX, sp os PP PX → os.length = ps.length)
    (hd : ∀ (cdv : Value) (A : Around) (outer : List Env) (s : Shared) (H : Hp) (E : XK), Room k (A.deeper (envOfC qual (defScope st) s.heap.objs.size f cdv)) →
      PSsd (cxOf (L2.CX P w) P w K mg base N qual (defScope st) f cdv A outer s H E) noG (fun cls d _ H => E cls d H) (defBody st) b)
    (hb : ∀ os PP PX, sp os PP PX → b (endsOf os PP PX) (rho0 N.length os)) : FnOk P w K mg base (L2.CX P w) (k + 1) f fd ps (spOf ⟨K, mg, noG⟩ sp) := by
  refine F.ok hS (fun vs H Q E h => ?_) (fun cdv A outer s H vs Q E hr h => ⟨_, hd cdv A outer s H E hr, body_ok hb h⟩)
  obtain ⟨F, I, os, PP, PX, R, hF, hsp, _⟩ := h
  have e := R.len
  rw [List.length_map, List.length_map] at e
  rw [← hl os PP PX hsp, e]
theorem kbn_of {n : Nat} {ks : List Str} {i : Int} (F : FunD K x qual (defArgs st) (defBody st) (defScope st) [.int i] [] f fd)
    (h : ∀ (T : Addr) (kV doc pm : Value) (an : Option Addr) (cdv ct : Value) (us ws its : List Value), us.length = n → ws.length = ks.length → its.length = 1 →
      ∃ k, bindArgs (PySem.W.fnOf x qual (defArgs st) (defBody st) (defScope st) (.ref T) kV doc pm an cdv ct) ⟨us, ks.zip ws⟩ = seqItems? (.ref T) >>= k ∧ k (some its.toArray) = pure (ps.zip (us ++ ws))) :
    KBn K fd ps n ks (fun us ws => us ++ ws) (fun vs zs => vs ++ zs) := by
  obtain ⟨oc, od, dV, kV, doc, pm, an, cdv, ct, osl, rfl, lk, hcd, hD, hK⟩ := F.ex
  rcases hD with ⟨e, _⟩ | ⟨_, T, o, its, m, rfl, lT, oT, rT⟩
  · cases e
  · refine ⟨fun s us ws X l1 l2 => ?_, fun r1 r2 => r1.append r2⟩
    obtain ⟨k, e1, e2⟩ := h T kV doc pm an cdv ct us ws its l1 l2 rT.length.symm
    refine BindsTo.of_looks fun M => ?_
    rw [e1]
    exact looks_items X lT oT (.of_pure e2)
end
theorem SaysW.funD_ {fa : List FrB} {fn : List He.DefD} {ts : List He.Tab} {w : World} {K : PySem.W.Frag} (c : SaysW fa fn ts w K) (j : Nat) (at_ : Str × Option Str) (q1 q2 : Str) (st : Stmt) (i : Int) (h : fn[j]? = some (dFD at_ q1 q2 st i)) :
    ∃ fd, FunD K q1 q2 (defArgs st) (defBody st) (defScope st) [.int i] [] (He.fAd K at_) fd := c.def_ j h
section
variable {K : PySem.W.Frag} {x qual : Str} {st : Stmt} {f : Addr} {fd : FuncData} {ps : List Str} {i : Int}
theorem bind_all (F : FunD K x qual (defArgs st) (defBody st) (defScope st) [.int i] [] f fd)
    (h : ∀ (T : Addr) (kV doc pm : Value) (an : Option Addr) (cdv ct : Value) (us its : List Value), us.length = ps.length → its.length = 1 →
      ∃ k, bindArgs (PySem.W.fnOf x qual (defArgs st) (defBody st) (defScope st) (.ref T) kV doc pm an cdv ct) ⟨us, []⟩ = seqItems? (.ref T) >>= k ∧ k (some its.toArray) = pure (ps.zip us)) : Binds K fd ps [] := by
  obtain ⟨ds, v, b⟩ := F.binds1 (ps := ps) ps.length 1 (by simp) (by simp) fun T kV doc pm an cdv ct us its l1 l2 => by
    obtain ⟨k, e1, e2⟩ := h T kV doc pm an cdv ct us its l1 l2
    refine ⟨k, e1, ?_⟩
    rw [e2, show its.drop 1 = [] from List.drop_of_length_le (Nat.le_of_eq l2), List.append_nil]
  cases v
  exact b
end
end Dt

/-! # Dt: the head's run, the facts in two parts -/
namespace Dt
open PySem PySem.Spec PyProof.Rows L2
theorem ok_pl (k : Nat) (p : Pl) : okSame (k + 3) (plD p) := by
  show okSame (k + 3) (.tuple [.int p.1, hD p.2.1, hD p.2.2])
  exact okS_cons trivial (okS_cons (okS_mapT fun _ => trivial) (okS_cons (okS_mapT fun _ => trivial) okS_nil))
theorem ok_pls (k : Nat) (rows : List Pl) : okSame (k + 4) (.list (rows.map plD)) := okS_map fun p => ok_pl k p
theorem ok_far (k : Nat) (p : Pl) (i : Int) : okSame (k + 4) (.tuple [plD p, .int i]) := okS_cons (ok_pl k p) (okS_cons trivial okS_nil)
theorem getD_at {rows : List Pl} {n : Nat} (h : n < rows.length) (d : Pl) : rows.getD n d = rows[n] := by
  rw [List.getD_eq_getElem?_getD, List.getElem?_eq_getElem h]
  rfl
end Dt

/-! # Dt: a set made of a list of nested tuples, none of them twice: the table -/
namespace Dt
open PySem PySem.Spec PyProof.Rows L2
theorem mask_bnd {m : Nat} (h : m ∈ maskL) : m % 2 = 1 ∧ m ≤ 2047 := by
  unfold maskL at h
  simp only [List.mem_cons, List.mem_nil_iff, or_false] at h
  omega
theorem SitN.none_ (m : Nat) : SitN m 0 (Array.replicate (m + 1) none) where
  size := by simp
  less := fun j k hj e => by rw [oAt_init hj] at e; cases e
  each := fun k hk => absurd hk (Nat.not_lt_zero _)
  some_ := ⟨[], rfl, fun j hj e => absurd (oAt_init hj) e⟩
theorem lay_fold {m : Nat} (F : FullP m) : ∀ (hs : List Int) (n : Nat) (owner : Array (Option Nat)), SitN m n owner → n + hs.length ≤ m →
    ∃ owner', hs.foldl (stepF m) (some (owner, n)) = some (owner', n + hs.length) ∧ SitN m (n + hs.length) owner'
  | [], n, owner, W, _ => ⟨owner, rfl, W⟩
  | h :: hs, n, owner, W, hl => by
    have hl : n + (hs.length + 1) ≤ m := hl
    obtain ⟨j, e, W1⟩ := W.next F (by omega) h
    obtain ⟨owner', f, W2⟩ := lay_fold F hs (n + 1) _ W1 (by omega)
    have ea : n + 1 + hs.length = n + (h :: hs).length := by rw [List.length_cons]; omega
    rw [ea] at f W2
    refine ⟨owner', ?_, W2⟩
    rw [List.foldl_cons, stepF_some e]
    exact f
theorem relaid_new (t : SetTable) {hs : Array Int} {wanted M : Nat} (hw : SetTable.sizeAbove wanted - 1 = M) (hM : M ∈ maskL) (hn : hs.size ≤ M) :
    ∃ t' order, t.relaid hs wanted = some (t', order) ∧ order.toList.Perm (List.range hs.size) ∧ TabN t' hs.size ∧ t'.mask = M ∧ t'.led = t.led ∧ t'.plain = t.plain := by
  obtain ⟨owner, f, W⟩ := lay_fold (full_mask hM) hs.toList 0 _ (SitN.none_ M) (by rw [Array.length_toList]; omega)
  rw [Nat.zero_add, Array.length_toList] at f W
  have lay : SetTable.layClean M hs = some owner := by
    rw [layClean_eq, f]
    rfl
  have run : t.relaid hs wanted = some (tabOf t M owner, ((liveOf M owner).map (·.2)).toArray) := by
    rw [relaid_eq, hw, lay]
    rfl
  have rise := ris_live (fun j => owner.getD j none) (List.range (M + 1)) (by
    unfold Ris
    first | exact List.pairwise_lt_range | exact List.pairwise_lt_range _)
  have up : Ris ((liveOf M owner).map (·.1)) := rise.1
  have inr : ∀ x ∈ (liveOf M owner).map (·.1), x ∈ List.range (M + 1) := rise.2
  have once : ((liveOf M owner).map (·.1)).Nodup := List.Pairwise.imp (fun z => Nat.ne_of_lt z) up
  have count : (liveOf M owner).length = hs.size := by
    obtain ⟨ps, p1, p2⟩ := W.some_
    have most := nat_nodup_len _ ps once fun x hx => by
      obtain ⟨⟨y, k⟩, hq, rfl⟩ := List.mem_map.mp hx
      obtain ⟨b1, b2⟩ := (mem_live W.size).1 hq
      exact p2 y b1 (by rw [b2]; simp)
    have least := nat_nodup_len (List.range hs.size) ((liveOf M owner).map (·.2)) List.nodup_range fun k hk => by
      obtain ⟨j, b1, b2⟩ := W.each k (List.mem_range.mp hk)
      exact List.mem_map.mpr ⟨(j, k), (mem_live W.size).2 ⟨b1, b2⟩, rfl⟩
    simp only [List.length_map, List.length_range] at most least
    omega
  refine ⟨_, _, run, perm_range hs.size _ ?_ fun k hk => ?_, ⟨up, rfl, ?_, hM, fun x hx => ?_⟩, rfl, rfl, rfl⟩
  · show ((liveOf M owner).map (·.2)).length = hs.size
    rw [List.length_map]; exact count
  · obtain ⟨j, b1, b2⟩ := W.each k hk
    exact List.mem_map.mpr ⟨(j, k), (mem_live W.size).2 ⟨b1, b2⟩, rfl⟩
  · show ((liveOf M owner).map (·.1)).toArray.size = hs.size
    rw [List.size_toArray, List.length_map]; exact count
  · have := List.mem_range.mp (inr x hx)
    show x ≤ M
    omega
def NoCls (P : Program) (w : World) (n : Nat) (s : Shared) (v : Value) : Prop := ∀ (A : Around) (E : Value → Shared → Prop) (Q : Bool → Shared → Prop), Q false s → wpAny (model P w) A (ofAClassStatement n v) Q E s
def ByVal (P : Program) (w : World) (n : Nat) (s : Shared) (v : Value) : Prop := ∀ (A : Around) (E : Value → Shared → Prop) (Q : Bool → Shared → Prop), Q true s → wpAny (model P w) A (hashByValue n v) Q E s
section
variable {P : Program} {w : World} {s : Shared}
theorem noCls_tup {n m : Nat} {a : Addr} {o : Obj} {vs : Array Value} (h1 : s.heap.get? a = some o) (h2 : o.cls = .type "tuple") (h3 : o.data = .seq vs m) (each : ∀ v ∈ vs.toList, NoCls P w n s v) : NoCls P w (n + 1) s (.ref a) := fun A E Q q => by
  unfold ofAClassStatement
  refine wpAny_bind (wpAny_typeOf (show s.TypeIs (.ref a) "tuple" from ⟨o, h1, h2⟩) ?_)
  dsimp only
  have yes : (("tuple" : String) == "tuple") = true := by decide
  simp only [yes, if_true, Bool.not_true, Bool.false_eq_true, if_false]
  try refine wpAny_bind (wpAny_pure ?_)
  try simp only [Bool.not_true, Bool.false_eq_true, if_false]
  show wpAny (model P w) A (seqItems? (.ref a) >>= _) _ _ s
  refine wpAny_bind (wpAny_seqItems h1 h3 ?_)
  dsimp only
  refine wpAny_bind ?_
  show wpAny (model P w) A (forIn vs _ _) _ _ s
  rw [← Array.forIn_toList]
  refine wpAny_forIn_list _ (fun more r t => r.1 = none ∧ t = s ∧ ∀ v ∈ more, NoCls P w n s v) _ ?_ ?_ _ _ ⟨rfl, rfl, each⟩
  · rintro v more r t ⟨e, rfl, all_⟩
    refine wpAny_bind (all_ v List.mem_cons_self _ _ _ ?_)
    simp only [Bool.false_eq_true, if_false]
    exact wpAny_pure ⟨rfl, rfl, fun y hy => all_ y (List.mem_cons_of_mem _ hy)⟩
  · rintro ⟨r1, r2⟩ t ⟨e, rfl, _⟩
    obtain rfl : r1 = none := e
    exact wpAny_pure q
theorem byVal_tup {n m : Nat} {a : Addr} {o : Obj} {vs : Array Value} (h1 : s.heap.get? a = some o) (h2 : o.cls = .type "tuple") (h3 : o.data = .seq vs m) (each : ∀ v ∈ vs.toList, ByVal P w n s v) : ByVal P w (n + 1) s (.ref a) := fun A E Q q => by
  unfold hashByValue
  refine wpAny_bind (wpAny_specialOf (show s.TypeIs (.ref a) "tuple" from ⟨o, h1, h2⟩) F.slot_tuple_hash.lookup ?_)
  show wpAny (model P w) A (seqItems? (.ref a) >>= _) _ _ s
  refine wpAny_bind (wpAny_seqItems h1 h3 ?_)
  refine wpAny_bind ?_
  show wpAny (model P w) A (forIn vs _ _) _ _ s
  rw [← Array.forIn_toList]
  refine wpAny_forIn_list _ (fun more r t => r.1 = none ∧ t = s ∧ ∀ v ∈ more, ByVal P w n s v) _ ?_ ?_ _ _ ⟨rfl, rfl, each⟩
  · rintro v more r t ⟨e, rfl, all_⟩
    refine wpAny_bind (all_ v List.mem_cons_self _ _ _ ?_)
    simp only [Bool.not_true, Bool.false_eq_true, if_false]
    exact wpAny_pure ⟨rfl, rfl, fun y hy => all_ y (List.mem_cons_of_mem _ hy)⟩
  · rintro ⟨r1, r2⟩ t ⟨e, rfl, _⟩
    obtain rfl : r1 = none := e
    exact wpAny_pure q
mutual
theorem noCls_key : ∀ (k : NK) (v : Value) (n : Nat), NestedIs s.heap k v → k.depth ≤ n → NoCls P w n s v
  | .none, _, n, x, _ => by cases x; exact fun A E Q q => by cases n <;> exact wpAny_pure q
  | .num i, _, n, x, _ => by cases x <;> exact fun A E Q q => by cases n <;> exact wpAny_pure q
  | .text y, _, n, x, _ => by cases x; exact fun A E Q q => by cases n <;> exact wpAny_pure q
  | .tup ks, _, n, x, hn => by
    cases x with
    | tup h1 h2 h3 h4 =>
      rw [NestedKey.depth] at hn
      obtain ⟨n, rfl⟩ : ∃ z, n = z + 1 := ⟨n - 1, by omega⟩
      exact noCls_tup h1 h2 h3 (noCls_keys ks _ n h4 (by omega))
theorem noCls_keys : ∀ (ks : List NK) (vs : List Value) (n : Nat), NestedAll s.heap ks vs → NestedKey.depthAll ks ≤ n → ∀ v ∈ vs, NoCls P w n s v
  | [], _, n, x, _, v, hv => by cases x; cases hv
  | k :: ks, _, n, x, hn, v, hv => by
    cases x with
    | cons x1 x2 =>
      rw [NestedKey.depthAll] at hn
      rcases List.mem_cons.mp hv with rfl | hv
      · exact noCls_key k _ n x1 (by omega)
      · exact noCls_keys ks _ n x2 (by omega) v hv
end
mutual
theorem byVal_key : ∀ (k : NK) (v : Value) (n : Nat), NestedIs s.heap k v → k.depth ≤ n → pureN k = true → ByVal P w n s v
  | .none, _, n, x, _, _ => by cases x; exact fun A E Q q => by cases n <;> exact wpAny_pure q
  | .num i, _, n, x, _, _ => by cases x <;> exact fun A E Q q => by cases n <;> exact wpAny_pure q
  | .text y, _, n, x, _, hp => by rw [pureN] at hp; cases hp
  | .tup ks, _, n, x, hn, hp => by
    cases x with
    | tup h1 h2 h3 h4 =>
      rw [NestedKey.depth] at hn
      rw [pureN] at hp
      obtain ⟨n, rfl⟩ : ∃ z, n = z + 1 := ⟨n - 1, by omega⟩
      exact byVal_tup h1 h2 h3 (byVal_keys ks _ n h4 (by omega) hp)
theorem byVal_keys : ∀ (ks : List NK) (vs : List Value) (n : Nat), NestedAll s.heap ks vs → NestedKey.depthAll ks ≤ n → pureNs ks = true → ∀ v ∈ vs, ByVal P w n s v
  | [], _, n, x, _, _, v, hv => by cases x; cases hv
  | k :: ks, _, n, x, hn, hp, v, hv => by
    cases x with
    | cons x1 x2 =>
      rw [NestedKey.depthAll] at hn
      rw [pureNs, Bool.and_eq_true] at hp
      rcases List.mem_cons.mp hv with rfl | hv
      · exact byVal_key k _ n x1 (by omega) hp.1
      · exact byVal_keys ks _ n x2 (by omega) hp.2 v hv
end
variable {A : Around} {E : Value → Shared → Prop}
/-- asked for one hash, such tuples show nothing -/
theorem unseen {k : NK} {b : Addr} {Q : Bool → Shared → Prop} (x : Kat s.heap k b) {ys : List Value} (hy : ∀ y ∈ ys, ∃ k' c, y = Value.ref c ∧ Kat s.heap k' c) (q : Q false s) :
    wpAny (model P w) A (searchCouldBeSeen (.ref b) ys) Q E s := by
  unfold searchCouldBeSeen
  refine wpAny_bind ?_
  refine wpAny_forIn_list _ (fun more r t => r.1 = none ∧ t = s ∧ ∀ y ∈ more, ∃ k' c, y = Value.ref c ∧ Kat s.heap k' c) _ ?_ ?_ _ _ ⟨rfl, rfl, hy⟩
  · rintro v more r t ⟨e, rfl, all_⟩
    obtain ⟨k', c, rfl, z⟩ := all_ v List.mem_cons_self
    have tl := fun y hy => all_ y (List.mem_cons_of_mem _ hy)
    dsimp only
    by_cases cv : (b == c || (carriedByValue (.ref b) && carriedByValue (.ref c))) = true
    · exact wp_if_pos cv (wpAny_pure ⟨rfl, rfl, tl⟩)
    · refine wp_if_neg cv (wpAny_bind (quiet_key k _ 8 t x.is_ x.deep A _ _ ?_))
      simp only [Bool.not_true, Bool.false_eq_true, if_false]
      refine wpAny_bind (quiet_key k' _ 8 t z.is_ z.deep A _ _ ?_)
      simp only [Bool.not_true, Bool.false_eq_true, if_false]
      refine wpAny_bind (noCls_key k _ 8 x.is_ x.deep A _ _ ?_)
      simp only [Bool.false_eq_true, if_false]
      refine wpAny_bind (noCls_key k' _ 8 z.is_ z.deep A _ _ ?_)
      simp only [Bool.false_eq_true, if_false]
      exact wpAny_pure ⟨rfl, rfl, tl⟩
  · rintro ⟨r1, r2⟩ t ⟨e, rfl, _⟩
    obtain rfl : r1 = none := e
    exact wpAny_pure q
end
section
variable {P : Program} {w : World} {A : Around} {E : Value → Shared → Prop} {s : Shared} {a : Addr} {L : List (Addr × NK)} {es : Array (Int × Value)} {ep : Nat} {t : SetTable}
theorem nsRows_len : (nsRows w L).length = L.length := by unfold nsRows; rw [List.length_map]
theorem size_rows (h : es.toList = nsRows w L) : es.size = L.length := by rw [← Array.length_toList, h, nsRows_len]
theorem fits_of {n : Nat} (e1 : t.place.size = n) (e2 : t.dummies = #[]) (hl : n ≤ t.mask) : t.fits n = true := by
  unfold SetTable.fits SetTable.fill
  rw [e1, e2]
  simpa using hl
theorem SetN.fits (R : SetN w s.heap a L es ep t) : t.fits es.size = true :=
  fits_of (R.tab.many.trans (size_rows R.rows).symm) R.tab.clean (by have := R.room; rw [size_rows R.rows]; omega)
theorem SetN.stays (R : SetN w s.heap a L es ep t) : ¬ t.gaveWay = true := by
  unfold SetTable.gaveWay
  rw [(mask_bnd R.tab.good).1]
  decide
theorem row_at (h : es.toList = nsRows w L) {i : Nat} {q : Addr × NK} (e : L[i]? = some q) : es[i]? = some (q.2.hash w, Value.ref q.1) := by
  rw [← Array.getElem?_toList, h, nsRows, List.getElem?_map, e]
  rfl
theorem nth_dummy (m : Nat) : ∀ (n : Nat) (p : SetTable.Probe), p.dummy = none → (nth m p n).dummy = none
  | 0, p, h => h
  | n + 1, p, h => by
    refine nth_dummy m n (adv m p) ?_
    unfold adv
    split <;> exact h
/-- a search for a key that is not there ends at the first free place -/
theorem find_new (R : SetN w s.heap a L es ep t) {x : Addr} {k : NK} (hx : Kat s.heap k x) (hu : A.units + 8 < cLine) (hnew : k ∉ L.map (·.2)) {K : Nat} (k1 : K < 10 * SetTable.turns t.mask)
    (k2 : way t.mask (k.hash w) K ∉ t.place.toList) (k3 : ∀ c, c < K → way t.mask (k.hash w) c ∈ t.place.toList) {Q : SetFound → Shared → Prop} (q : Q (.free (way t.mask (k.hash w) K) false) s) :
    ∀ (f c : Nat) (stand : Option SetTable.Probe), stand.getD (t.probeStart (k.hash w)) = nth t.mask (runAt t.mask (SetTable.bits (k.hash w) % (t.mask + 1)) (SetTable.bits (k.hash w))) c → c ≤ K → K - c < f →
      wpAny (model P w) A (setSearchFrom a (.ref x) (k.hash w) true f stand) Q E s
  | 0, c, stand, _, _, hf => absurd hf (Nat.not_lt_zero _)
  | f + 1, c, stand, es0, hc, hf => by
    obtain ⟨o, g1, g2, g3⟩ := R.at_
    rw [setSearchFrom_succ]
    refine wpAny_bind (wpAny_setState_of g1 g3 R.fits ?_)
    dsimp only
    refine wp_if_neg R.stays ?_
    try refine wpAny_bind (wpAny_pure ?_)
    generalize hst : runAt t.mask (SetTable.bits (k.hash w) % (t.mask + 1)) (SetTable.bits (k.hash w)) = st at es0
    have dn := nth_dummy t.mask c st (by rw [← hst]; rfl)
    have wy : ∀ z, (nth t.mask (nth t.mask st c) z).j = way t.mask (k.hash w) (c + z) := fun z => by
      rw [← nth_add, ← hst]
    have spec := go_spec t R.tab.up R.tab.clean (fun i => (es[i]?.map (·.1)).getD 0) (k.hash w) (10 * SetTable.turns t.mask) (K - c) (nth t.mask st c) dn (by omega)
      (fun z hz => by rw [wy]; exact k3 _ (by omega)) (by rw [wy, show c + (K - c) = K by omega]; exact k2)
    rcases spec with ⟨z, i, z1, z2, z3, _, z5⟩ | ⟨_, z5⟩
    · have pr : t.probe (fun i => (es[i]?.map (·.1)).getD 0) (k.hash w) (stand.getD (t.probeStart (k.hash w))) = some (.candidate (nth t.mask (nth t.mask st c) z).j i (nth t.mask (nth t.mask st c) (z + 1))) := by
        rw [es0]; exact z5
      rw [pr]
      dsimp only
      have il : i < L.length := by
        have b1 := (List.getElem?_eq_some_iff.mp z2).1
        have b2 := R.tab.many
        rw [Array.length_toList] at b1
        omega
      obtain ⟨y, hy⟩ : ∃ y, L[i]? = some y := ⟨_, List.getElem?_eq_getElem il⟩
      have ym : y ∈ L := List.mem_of_getElem? hy
      have ky := R.keys y ym
      have ne : y.2 ≠ k := fun z => hnew (z ▸ List.mem_map.mpr ⟨y, ym, rfl⟩)
      have here := slot_live R.tab.up z2
      have go_on : wpAny (model P w) A (searchRest a (.ref x) (k.hash w) true f es t (nth t.mask (nth t.mask st c) z).j i (nth t.mask (nth t.mask st c) (z + 1))) Q E s := by
        unfold searchRest
        rw [row_at R.rows hy]
        dsimp only
        refine wpAny_bind (wpAny_holding ((nestedKind P w).eqBool hu ⟨ky.is_, ky.deep⟩ ⟨hx.is_, hx.deep⟩ ?_))
        refine wpAny_bind (wpAny_setState_of g1 g3 R.fits ?_)
        dsimp only
        refine wp_if_neg (by simp [ne]) ?_
        try refine wpAny_bind (wpAny_pure ?_)
        rw [sameMem]
        dsimp only
        simp only [if_true, here, row_at R.rows hy]
        refine wpAny_bind (wpAny_isSame_ref_self (wpAny_bind (wpAny_pure ?_)))
        simp only [if_true]
        refine wp_if_neg (by simp [ne]) ?_
        refine find_new R hx hu hnew k1 k2 k3 q f (c + (z + 1)) _ ?_ (by omega) (by omega)
        rw [hst]
        exact (nth_add t.mask c st (z + 1)).symm
      by_cases ld : t.led = true
      · refine wp_if_neg (by simp [ld]) ?_
        try refine wpAny_bind (wpAny_pure ?_)
        exact go_on
      · refine wp_if_pos (by simp [ld]) (wpAny_bind (unseen hx (fun u hu' => ?_) ?_))
        · obtain ⟨e, he, rfl⟩ := List.mem_map.mp hu'
          have he2 : e ∈ es.toList := (by simpa using he : e ∈ es ∧ e.1 = k.hash w).1 |> fun z => by simpa using z
          rw [R.rows] at he2
          obtain ⟨r, hr, rfl⟩ := List.mem_map.mp he2
          exact ⟨r.2, r.1, rfl, R.keys r hr⟩
        · refine wp_if_neg (by decide) ?_
          try refine wpAny_bind (wpAny_pure ?_)
          exact go_on
    · have pr : t.probe (fun i => (es[i]?.map (·.1)).getD 0) (k.hash w) (stand.getD (t.probeStart (k.hash w))) = some (.empty (way t.mask (k.hash w) K) none) := by
        rw [es0]
        rw [wy, show c + (K - c) = K by omega] at z5
        exact z5
      rw [pr]
      dsimp only
      exact wpAny_pure q
theorem look_new (R : SetN w s.heap a L es ep t) {x : Addr} {k : NK} (hx : Kat s.heap k x) (hu : A.units + 8 < cLine) (hnew : k ∉ L.map (·.2)) {Q : SetFound → Shared → Prop}
    (q : ∀ j, j ≤ t.mask → j ∉ t.place.toList → Q (.free j false) s) : wpAny (model P w) A (setSearch a (.ref x) (k.hash w) true) Q E s := by
  obtain ⟨K, k1, k2, k3⟩ := R.tab.free (by have := R.room; omega) (k.hash w)
  have big := (mask_bnd R.tab.good).2
  unfold setSearch
  exact find_new R hx hu hnew k1 k2 k3 (q _ way_in k2) 100000 0 none rfl (Nat.zero_le _) (by unfold SetTable.turns at k1; omega)
theorem put_rows (n : Nat) (q : Addr × NK) : nsRows w (L.take n ++ q :: L.drop n) = (nsRows w L).take n ++ (q.2.hash w, Value.ref q.1) :: (nsRows w L).drop n := by
  unfold nsRows
  simp only [List.map_append, List.map_cons, List.map_take, List.map_drop]
/-- the rows in another order -/
theorem rows_order (h : es.toList = nsRows w L) (order : Array Nat) (hp : order.toList.Perm (List.range L.length)) : ∃ L2, (order.filterMap (es[·]?)).toList = nsRows w L2 ∧ L2.Perm L := by
  have key : ∀ l : List Nat, (∀ i ∈ l, i < L.length) → l.filterMap (fun i => es[i]?) = nsRows w (l.filterMap fun i => L[i]?) := by
    intro l
    induction l with
    | nil => intro _; rfl
    | cons i l ih =>
      intro hl
      have e : L[i]? = some (L[i]'(hl i List.mem_cons_self)) := List.getElem?_eq_getElem _
      rw [List.filterMap_cons_some (row_at h e), List.filterMap_cons_some e, ih fun j hj => hl j (List.mem_cons_of_mem _ hj)]
      rfl
  have whole : ∀ n, n ≤ L.length → (List.range n).filterMap (fun i => L[i]?) = L.take n := by
    intro n
    induction n with
    | zero => intro _; rfl
    | succ n ih =>
      intro hn
      have e : L[n]? = some (L[n]'hn) := List.getElem?_eq_getElem _
      rw [List.range_succ, List.filterMap_append, ih (Nat.le_of_lt hn), List.take_succ, List.filterMap_cons_some e, e]
      rfl
  refine ⟨order.toList.filterMap fun i => L[i]?, ?_, ?_⟩
  · rw [← key order.toList fun i hi => List.mem_range.mp (hp.mem_iff.mp hi)]
    simp
  · have z := hp.filterMap fun i => L[i]?
    rw [whole L.length (Nat.le_refl _), List.take_length] at z
    exact z
/-- a set in a larger table -/
theorem relay_new {o : Obj} (g1 : s.heap.get? a = some o) (g2 : o.ExactSet) (g3 : o.data = .set es ep t) (hr : es.toList = nsRows w L) (hm : t.place.size = L.length) (hc : t.dummies = #[]) (hl : L.length ≤ t.mask)
    (hk : ∀ q ∈ L, Kat s.heap q.2 q.1) (hp : t.plain = true) (ld : w.params.followText "set-order" = true ∨ t.led = true) (few : L.length ≤ 1000) {wanted M : Nat}
    (hw : SetTable.sizeAbove wanted - 1 = M) (hM : M ∈ maskL) (hw2 : SetTable.sizeAbove wanted ≤ 2048) (hn : L.length * 5 < M * 3) {Q : Unit → Shared → Prop}
    (q : ∀ h' L' es' ep' t', Heap.SameBut a s.heap h' → SetN w h' a L' es' ep' t' → L'.Perm L → Q () { s with heap := h' }) : wpAny (model P w) A (setRelay a wanted) Q E s := by
  have sz := size_rows hr
  obtain ⟨t', order, e, pm, T, em, el, ep'⟩ := relaid_new t (hs := es.map (·.1)) hw hM (by rw [Array.size_map, sz]; omega)
  rw [Array.size_map, sz] at pm T
  obtain ⟨L2, r1, r2⟩ := rows_order hr order pm
  have sz2 := (size_rows r1).trans (r2.length_eq.trans sz.symm)
  rw [setRelay_eq]
  refine wpAny_bind (wpAny_setState_of g1 g3 (fits_of (hm.trans sz.symm) hc (by rw [sz]; exact hl)) ?_)
  dsimp only
  refine wp_if_neg (by rw [sizeLine_eq]; omega) ?_
  try refine wpAny_bind (wpAny_pure ?_)
  rw [e]
  dsimp only
  refine wpAny_bind ?_
  refine wp_if_neg (by rw [sz2]; simp) ?_
  try refine wpAny_bind (wpAny_pure ?_)
  refine wpAny_pure ?_
  dsimp only
  refine wpAny_storeSet_of g1 g3 ?_ (by rw [sz2, sz, sizeLine_eq]; omega)
  have sb : Heap.SameBut a s.heap (s.heap.update a (Obj.putSet (order.filterMap (es[·]?)) t')) := Heap.SameBut.update ..
  exact q _ L2 _ (ep + 1) t' sb ⟨⟨_, store_at g1 g3, ⟨g2.1, g2.2.1, g2.2.2⟩, rfl⟩, r1, r2.length_eq.symm ▸ T, fun p hpm => (hk p (r2.mem_iff.mp hpm)).same g1 g3 sb, ep' ▸ hp, by rw [el]; exact ld, by rw [r2.length_eq, em]; exact hn, by rw [r2.length_eq]; exact few⟩ r2
theorem grow_at : ∀ m ∈ maskL, ∀ n : Nat, n * 5 < m * 3 → m * 3 ≤ (n + 1) * 5 → n + 1 ≤ 1000 → ∃ M, SetTable.sizeAbove (SetTable.grown (n + 1)) - 1 = M ∧ M ∈ maskL ∧ SetTable.sizeAbove (SetTable.grown (n + 1)) ≤ 2048 ∧ (n + 1) * 5 < M * 3 := by
  intro m hm n h1 h2 h3
  unfold maskL at hm
  simp only [List.mem_cons, List.mem_nil_iff, or_false] at hm
  have c : n = 4 ∨ n = 18 ∨ n = 76 ∨ n = 306 := by omega
  rcases c with rfl | rfl | rfl | rfl
  · exact ⟨31, by decide +kernel, by decide, by decide +kernel, by decide⟩
  · exact ⟨127, by decide +kernel, by decide, by decide +kernel, by decide⟩
  · exact ⟨511, by decide +kernel, by decide, by decide +kernel, by decide⟩
  · exact ⟨2047, by decide +kernel, by decide, by decide +kernel, by decide⟩
/-- a new one is put in -/
theorem add_new (R : SetN w s.heap a L es ep t) {x : Addr} {k : NK} (hx : Kat s.heap k x) (hu : A.units + 8 < cLine) (hnew : k ∉ L.map (·.2)) (few : L.length + 1 ≤ 1000) {Q : Bool → Shared → Prop}
    (q : ∀ h' L' es' ep' t', Heap.SameBut a s.heap h' → SetN w h' a L' es' ep' t' → L'.Perm ((x, k) :: L) → Q true { s with heap := h' }) :
    wpAny (model P w) A (setAddHashed a (.ref x) (k.hash w)) Q E s := by
  obtain ⟨o, g1, g2, g3⟩ := R.at_
  have sz := size_rows R.rows
  have rm := R.room
  unfold setAddHashed
  refine wpAny_holding ?_
  rw [show (100000 : Nat) = 99999 + 1 from rfl, setAddHashedIn_succ]
  refine wpAny_bind (wpAny_setState_of g1 g3 R.fits ?_)
  dsimp only
  refine wp_if_neg (by simp [byScan, Value.scannable]) ?_
  try refine wpAny_bind (wpAny_pure ?_)
  refine wpAny_bind (look_new R hx hu hnew fun j jm out => ?_)
  dsimp only
  refine wpAny_bind (wpAny_setState_of g1 g3 R.fits ?_)
  dsimp only
  obtain ⟨q1, q2, q3, q4, q5, q6, q9⟩ := R.tab.add jm out
  have hp1 : (t.put j).1.plain = true := by rw [q6]; exact R.plain
  generalize t.put j = pt at q1 q3 q4 q5 q6 q9 hp1 ⊢
  obtain ⟨t1, p⟩ := pt
  dsimp only at q1 q3 q4 q5 q6 q9 hp1 ⊢
  subst q1
  first
    | (refine wpAny_bind ?_; refine wp_if_pos hp1 ?_; refine byVal_key k _ 8 hx.is_ hx.deep hx.pure_ A _ _ ?_)
    | refine wp_if_pos hp1 (wpAny_bind (byVal_key k _ 8 hx.is_ hx.deep hx.pure_ A _ _ ?_))
  simp only [if_true]
  generalize SetTable.below t.place j = p at q2 ⊢
  have pm : (L.take p ++ (x, k) :: L.drop p).Perm ((x, k) :: L) := by
    have z : (L.take p ++ (x, k) :: L.drop p).Perm ((x, k) :: (L.take p ++ L.drop p)) := List.perm_middle
    rwa [List.take_append_drop] at z
  have ins : (SetTable.insertAt es p (k.hash w, Value.ref x)).toList = nsRows w (L.take p ++ (x, k) :: L.drop p) := by
    rw [SetTable.toList_insertAt, put_rows, R.rows]
  have len : (L.take p ++ (x, k) :: L.drop p).length = L.length + 1 := pm.length_eq
  generalize L.take p ++ (x, k) :: L.drop p = L1 at pm ins len
  generalize SetTable.insertAt es p (k.hash w, Value.ref x) = es1 at ins ⊢
  have sz1 := size_rows ins
  refine wpAny_bind (wpAny_storeSet_of g1 g3 ?_ (by rw [sz1, len, sizeLine_eq]; omega))
  have sb : Heap.SameBut a s.heap (s.heap.update a (Obj.putSet es1 t1)) := Heap.SameBut.update ..
  have ho1 := store_at (es' := es1) (t' := t1) g1 g3
  generalize s.heap.update a (Obj.putSet es1 t1) = h1 at sb ho1 ⊢
  have keys1 : ∀ p ∈ L1, Kat h1 p.2 p.1 := fun p hp => by
    rcases List.mem_cons.mp (pm.mem_iff.mp hp) with rfl | hp
    · exact hx.same g1 g3 sb
    · exact (R.keys p hp).same g1 g3 sb
  have ld1 : w.params.followText "set-order" = true ∨ t1.led = true := by rw [q5]; exact R.led
  rw [← len] at q3 q9
  by_cases full : t1.tooFull = true
  · first
      | (refine wpAny_bind ?_; refine wp_if_pos (by simp [full]) ?_)
      | (refine wp_if_pos (by simp [full]) ?_; refine wpAny_bind ?_)
    have over : t.mask * 3 ≤ (L.length + 1) * 5 := by
      unfold SetTable.tooFull at full
      rw [decide_eq_true_eq, q9, len, q4] at full
      exact full
    rw [sz]
    obtain ⟨M, m1, m2, m3, m4⟩ := grow_at t.mask R.tab.good L.length rm over few
    refine relay_new (s := { s with heap := h1 }) (L := L1) ho1 ⟨g2.1, g2.2.1, g2.2.2⟩ rfl ins q3.many q3.clean (by rw [len, q4]; omega) keys1 hp1 ld1 (by omega) m1 m2 m3 (by rw [len]; exact m4) ?_
    intro h2 L2 es2 ep2 t2 sb2 R2 pm2
    exact wpAny_pure (q h2 L2 es2 ep2 t2 (sb.trans sb2) R2 (pm2.trans pm))
  · first
      | refine wp_if_neg (by simp [full]) ?_
      | (refine wpAny_bind ?_; refine wp_if_neg (by simp [full]) ?_; refine wpAny_pure ?_)
    refine wpAny_pure (q h1 L1 es1 (ep + 1) t1 sb ⟨⟨_, ho1, ⟨g2.1, g2.2.1, g2.2.2⟩, rfl⟩, ins, q3, keys1, hp1, ld1, ?_, by omega⟩ pm)
    unfold SetTable.tooFull at full
    rw [decide_eq_true_eq, q9] at full
    omega
theorem setN_empty {h : Heap} (ho : h.get? a = some { cls := .type "set", dict := none, data := .set #[] 0 (.fresh 0 0 (!w.params.followText "set-order")) }) : SetN w h a [] #[] 0 (.fresh 0 0 (!w.params.followText "set-order")) where
  at_ := ⟨_, ho, ⟨rfl, rfl, rfl⟩, rfl⟩
  rows := rfl
  tab := ⟨List.Pairwise.nil, rfl, rfl, (by show 7 ∈ maskL; decide), fun x hx => (by cases hx)⟩
  keys := fun q hq => (by cases hq)
  plain := rfl
  led := by
    cases e : w.params.followText "set-order"
    · exact .inr rfl
    · exact .inl rfl
  room := by
    show 0 * 5 < 7 * 3
    decide
  few := Nat.zero_le _
/-- the loop that fills the set -/
theorem fill_set {I : Addr} {fp wr : List Addr} {G : Array GenState → Array GenState → Prop} {n : Nat} {Pv : Nat → Value → Prop} {St : Nat → Shared → Prop} {R : Result → Shared → Prop}
    (W : WalksS P w A.in1 I fp wr G n Pv St) (S : Addr) (out : S ∉ fp) (ks : List (Addr × NK)) (hn : n = ks.length) (few : ks.length ≤ 1000) (nd : (ks.map (·.2)).Nodup) (hv : ∀ i v, Pv i v → ∃ p, ks[i]? = some p ∧ v = .ref p.1)
    (h0 : Heap) (hk : ∀ p ∈ ks, Kat h0 p.2 p.1) (n1 : h0.get? S = none) (n2 : ∀ b ∈ wr, h0.get? b = none) (hu : A.units + 9 < cLine) :
    ∀ (m i : Nat) (s : Shared), n - i = m → i ≤ n → St i s → (∀ b o, h0.get? b = some o → s.heap.get? b = some o) → (∃ L es ep t, SetN w s.heap S L es ep t ∧ L.Perm (ks.take i)) →
      (∀ s' L es ep t, Moved (S :: wr) G s s' → SetN w s'.heap S L es ep t → L.Perm ks → (∀ b o, h0.get? b = some o → s'.heap.get? b = some o) → R (.ok (.ret .none)) s') →
      codeAny (model P w) A (.builtin "set.update.loop" ⟨[.ref S, .ref I], []⟩) R s := by
  have outw : S ∉ wr := fun h => out (W.sub _ h)
  have more : ∀ b ∈ wr, b ∈ S :: wr := fun b hb => List.mem_cons_of_mem _ hb
  have kp : ∀ {s s' : Shared}, Moved wr G s s' → (∀ b o, h0.get? b = some o → s.heap.get? b = some o) → ∀ b o, h0.get? b = some o → s'.heap.get? b = some o := fun hm q b o e =>
    hm.heap b o (fun hb => by rw [n2 b hb] at e; cases e) (q b o e)
  intro m
  induction m with
  | zero =>
    rintro i s hm hi st q ⟨L, es, ep, t, hS, pm⟩ hR
    obtain rfl : i = n := by omega
    rw [hn, List.take_length] at pm
    refine codeAny_builtin F.entry_set_update_loop ?_
    rw [Around.under_plainId F.plain_set_update_loop _]
    show wpAny (model P w) A.in1 (pyNext (.ref I) >>= _) _ _ s
    refine wpAny_bind (W.done s _ _ st fun s' mv => ?_)
    show wpAny (model P w) A.in1 (ret Value.none) _ _ s'
    have q' := kp mv q
    exact wpAny_pure (hR s' L es ep t (mv.mono more) (hS.keep (fun o e => mv.heap S o outw e) fun p hp => (hk p (pm.mem_iff.mp hp)).keep q') pm q')
  | succ m ih =>
    rintro i s hm hi st q ⟨L, es, ep, t, hS, pm⟩ hR
    have lt : i < n := by omega
    refine codeAny_builtin F.entry_set_update_loop ?_
    rw [Around.under_plainId F.plain_set_update_loop _]
    show wpAny (model P w) A.in1 (pyNext (.ref I) >>= _) _ _ s
    refine wpAny_bind (W.item i s _ _ lt st fun v s' pv st' mv => ?_)
    obtain ⟨p, hp, rfl⟩ := hv i v pv
    have q' := kp mv q
    have sub : ∀ x ∈ L, x ∈ ks := fun x hx => List.mem_of_mem_take (pm.mem_iff.mp hx)
    have hS' : SetN w s'.heap S L es ep t := hS.keep (fun o e => mv.heap S o outw e) fun x hx => (hk x (sub x hx)).keep q'
    have kx : Kat s'.heap p.2 p.1 := (hk p (List.mem_of_getElem? hp)).keep q'
    have lenL : L.length = i := by
      rw [pm.length_eq, List.length_take]
      omega
    have new_ : p.2 ∉ L.map (·.2) := fun z => by
      rw [(pm.map (·.2)).mem_iff, List.map_take] at z
      obtain ⟨c, hc, e⟩ := List.getElem_of_mem z
      have c1 : c < i := by rw [List.length_take] at hc; omega
      rw [List.getElem_take] at e
      have e2 : (ks.map (·.2))[i]'(by rw [List.length_map]; omega) = p.2 := by
        rw [List.getElem_map]
        obtain ⟨_, e3⟩ := List.getElem?_eq_some_iff.mp hp
        rw [e3]
      exact List.pairwise_iff_getElem.mp nd c i _ _ c1 (e.trans e2.symm)
    show wpAny (model P w) A.in1 (holding [Value.ref p.1] (setAdd S (.ref p.1)) >>= _) _ _ s'
    refine wpAny_bind (wpAny_holding ?_)
    unfold setAdd
    refine wpAny_holding ?_
    have deep := kx.deep
    have hu1 : A.in1.units = A.units + 1 := rfl
    refine wpAny_bind (pyHash_key p.2 _ A.in1 s' _ kx.is_ (by omega) ?_)
    refine add_new (s := { s' with toks := s'.toks + p.2.draws }) hS' kx (by omega) new_ (by omega) fun h' L' es' ep' t' sb hS2 pm2 => ?_
    have pm3 : L'.Perm (ks.take (i + 1)) := by
      rw [List.take_succ, hp]
      exact pm2.trans ((pm.cons p).trans (List.perm_append_singleton p _).symm)
    have q2 : ∀ b o, h0.get? b = some o → h'.get? b = some o := fun b o e => (sb.2 b (fun z => by rw [z, n1] at e; cases e)).trans (q' b o e)
    refine wpAny_pure ⟨plainId_quiet F.plain_set_update_loop _, ih (i + 1) _ (by omega) lt (W.frame _ s' _ _ st' (Nat.le_add_right _ _) fun b hb o e => ?_) q2 ⟨L', es', ep', t', hS2, pm3⟩ fun s2 L2 es2 ep2 t2 mv2 hS3 pm4 q3 => ?_⟩
    · rw [sb.2 b (fun z : b = S => out (z ▸ hb))]
      exact e
    · refine hR s2 L2 es2 ep2 t2 (Moved.trans W.gtrans ((mv.mono more).then_heap (Nat.le_add_right _ _) fun b o hb e => ?_) mv2) hS3 pm4 q3
      rw [sb.2 b (fun z : b = S => hb (z ▸ List.mem_cons_self))]
      exact e
/-- the object of a set just made -/
def newSet (w : World) : Obj := { cls := .type "set", dict := none, data := .set #[] 0 (.fresh 0 0 (!w.params.followText "set-order")) }
set_option maxHeartbeats 8000000 in
/-- set(xs): none of the keys twice -/
theorem call_set_new {l : Addr} {items : Array Value} (ks : List (Addr × NK)) {Q : Value → Shared → Prop} (hh : A.handled = none) (hl : s.heap.IsList l items) (hit : items.toList = ks.map fun p => Value.ref p.1)
    (hk : ∀ p ∈ ks, Kat s.heap p.2 p.1) (nd : (ks.map (·.2)).Nodup) (few : ks.length ≤ 1000) (hu : A.units + 32 < cLine)
    (q : ∀ (h' : Heap) (tk : Nat) L es ep t, SetN w h' s.heap.objs.size L es ep t → L.Perm ks → (∀ b o, s.heap.get? b = some o → h'.get? b = some o) → Q (.ref s.heap.objs.size) { s with heap := h', toks := tk }) :
    wpAny (model P w) A (call (.type "set") [.ref l]) Q E s := by
  have sz : items.size = ks.length := by
    have z := congrArg List.length hit
    rwa [Array.length_toList, List.length_map] at z
  obtain ⟨c, tl, hmro⟩ := F.called_set.mro
  have hmade := F.called_set.made
  have hsub := F.called_set.sub
  refine wpAny_call (codeAny_of_tree ?_)
  show wpAny (model P w) _ (callAny (.type "set") _) _ _ _
  refine wpAny_pure ⟨Code.quiet_builtin _ (by decide +kernel), codeAny_builtin F.entry_type_call ?_⟩
  rw [Around.under_plain (weight_type_call_type "set" [.ref l] []) rfl]
  have f1 := F.called_set.notType
  have f2 := F.called_set.canCreate
  have f3 := F.typeCall_set_1 (.ref l)
  repeat any_goals first | assumption | wp_step
  refine codeAny_mono (code_set_led1 (.ref l) (E := E) (Q₁ := fun obj s1 => obj = .ref s.heap.objs.size ∧ s1 = { s with heap := s.heap.push (newSet w) }) ⟨rfl, rfl⟩) fun r s1 hr => ?_
  cases r with
  | error e => exact hr
  | ok fl =>
    cases fl with
    | ret obj =>
      obtain ⟨rfl, rfl⟩ := hr
      have hS : (s.heap.push (newSet w)).get? s.heap.objs.size = some (newSet w) := Heap.get?_push_size _ rfl
      have hT : Shared.TypeIs { s with heap := s.heap.push (newSet w) } (.ref s.heap.objs.size) "set" := ⟨_, hS, rfl⟩
      have f4 := F.called_set.init.lookup
      have f5 := F.called_set.init.bind (.ref s.heap.objs.size)
      repeat any_goals first | assumption | wp_step
      refine codeAny_mono (codeAny_call_builtin (R := wants (fun r s2 => r = .none ∧ ∃ h' tk L es ep t, s2 = { s with heap := h', toks := tk } ∧ SetN w h' s.heap.objs.size L es ep t ∧ L.Perm ks ∧
          (∀ b o, s.heap.get? b = some o → h'.get? b = some o)) E) F.called_set.init.plain F.entry_set_init (check_set_init_1 hT ?_)) fun r2 s2 hr2 => ?_
      · obtain ⟨⟨oc, od, odat, osl⟩, hol, hcl, nl, hdl⟩ := hl
        simp only at hcl hdl
        subst hcl; subst hdl
        have hol' : (s.heap.push (newSet w)).get? l = some { cls := .type "list", dict := od, data := .seq items nl, slots := osl } := Heap.get?_push_of_some _ hol
        have hsls := F.sub_list_set
        have hslf := F.sub_list_frozenset
        have hne : (Value.type "list" == Value.type "dict") = false := by decide
        have hl1 : (s.heap.push (newSet w)).IsList l items := ⟨_, hol', rfl, nl, rfl⟩
        unfold Builtin.«set.__init__» noKeywords Builtin.Frozenset.updateFrom
        generalize hPI : pyIter = PI
        wp_walk
        subst hPI
        refine wpAny_pyIter_list hl1 (wpAny_bind (wpAny_runValue ?_))
        have old : l < s.heap.objs.size := Heap.lt_size hol
        have hd3 : A.in1.in1.in1.handled = none := by simp [hh]
        have sz1 : (s.heap.push (newSet w)).objs.size = s.heap.objs.size + 1 := Heap.size_push ..
        have free_ : ∀ b, s.heap.objs.size ≤ b → s.heap.get? b = none := fun b hb => by
          cases z : s.heap.get? b with
          | none => rfl
          | some o => exact absurd (Heap.lt_size z) (Nat.not_lt_of_le hb)
        have val : ∀ (i : Nat) (v : Value), items[i]? = some v → ∃ p, ks[i]? = some p ∧ v = .ref p.1 := fun i v hv => by
          rw [← Array.getElem?_toList, hit, List.getElem?_map] at hv
          obtain ⟨p, e1, e2⟩ := Option.map_eq_some_iff.mp hv
          exact ⟨p, e1, e2.symm⟩
        have apart : l ≠ (s.heap.push (newSet w)).objs.size := Nat.ne_of_lt (by rw [sz1]; exact Nat.lt_succ_of_lt old)
        refine fill_set (Walks.list hd3 _ l apart items).toS s.heap.objs.size
          (by rw [sz1]; simp only [List.mem_cons, List.not_mem_nil, or_false, not_or]; exact ⟨Nat.ne_of_lt (Nat.lt_succ_self _), Nat.ne_of_gt old⟩) ks sz few nd val s.heap hk (free_ _ (Nat.le_refl _)) (fun b hb => free_ b (by rw [List.mem_singleton.mp hb, sz1]; exact Nat.le_succ _))
          (show A.units + 1 + 1 + 9 < cLine by omega) (items.size - 0) 0 _ (by omega) (Nat.zero_le _)
          ⟨⟨_, Heap.get?_push_size _ rfl, rfl, rfl⟩, (hl1.push _)⟩ (fun b o e => Heap.get?_push_of_some _ (Heap.get?_push_of_some _ e)) ?first ?last
        case first =>
          exact ⟨[], #[], 0, _, setN_empty (Heap.get?_push_of_some _ hS), List.Perm.refl _⟩
        case last =>
          rintro ⟨h', g2, d', tk', os'⟩ L es ep t mv hS' pm kp
          obtain rfl : g2 = s.gens := mv.gens
          obtain rfl : d' = s.drawn := mv.drawn
          obtain rfl : os' = s.os := mv.os
          show wpAny _ _ _ _ _ _
          refine wpAny_pure ?_
          show wpAny _ _ (ret Value.none) _ _ _
          exact wpAny_pure ⟨rfl, h', tk', L, es, ep, t, rfl, hS', pm, kp⟩
      · cases r2 with
        | error e => exact hr2
        | ok fl2 =>
          cases fl2 with
          | ret r =>
            obtain ⟨rfl, h', tk, L, es, ep, t, rfl, hS', pm, kp⟩ := hr2
            repeat any_goals first | assumption | wp_step
            exact q _ _ _ _ _ _ hS' pm kp
          | _ => exact hr2.elim
    | _ => exact hr.elim
end
end Dt

/-! # Dt: len(set(rows)) of nested tuples, none of them twice -/
namespace Dt
open PySem PySem.Spec PyProof.Rows L2
mutual
theorem NkV.pure {H : Hp} : ∀ {v : V} {k : NK}, NkV H v k → pureN k = true
  | _, _, .int i => by rw [pureN]
  | _, _, .tup _ hs => by rw [pureN]; exact NkVs.pure hs
theorem NkVs.pure {H : Hp} : ∀ {vs : List V} {ks : List NK}, NkVs H vs ks → pureNs ks = true
  | _, _, .nil => by rw [pureNs]
  | _, _, .cons h hs => by rw [pureNs, NkV.pure h, NkVs.pure hs]; rfl
end
/-- each one a tuple -/
def tupN : NK → Bool
  | .tup _ => true
  | _ => false
theorem tup_refs {H : Hp} : ∀ {vs : List V} {ks : List NK}, NkVs H vs ks → (∀ k ∈ ks, tupN k = true) → ∃ ps : List (Addr × NK), vs = ps.map (fun p => V.ref p.1) ∧ ks = ps.map (·.2) ∧ ∀ p ∈ ps, NkV H (.ref p.1) p.2
  | _, _, .nil, _ => ⟨[], rfl, rfl, fun p hp => by cases hp⟩
  | _, _, .cons r rs, ht => by
    obtain ⟨ps, rfl, rfl, e⟩ := tup_refs rs fun k hk => ht k (List.mem_cons_of_mem _ hk)
    cases r with
    | int i => have := ht _ List.mem_cons_self; simp [tupN] at this
    | @tup a o xs ks h hs =>
      refine ⟨(a, .tup ks) :: ps, rfl, rfl, fun p hp => ?_⟩
      rcases List.mem_cons.mp hp with rfl | hp
      · exact .tup h hs
      · exact e p hp
theorem refs_vals {ps : List (Addr × NK)} : ∀ {us : List Value}, Vals (ps.map fun p => V.ref p.1) us → us = ps.map fun p => Value.ref p.1 := by
  induction ps with
  | nil => intro us r; cases r; rfl
  | cons p ps ih =>
    intro us r
    cases r with
    | cons r rs =>
      cases r
      rw [ih rs]
      rfl
section
variable {X : Cx}
def tLenSetN (K : PySem.W.Frag) (ta : TE) : TE := fun σ H Q => ta σ H fun x H1 => ∃ (l : Addr) (ps : List (Addr × NK)), x = V.ref l ∧ SqL K H1 l (ps.map fun p => V.ref p.1) ∧ (∀ p ∈ ps, NkV H1 (.ref p.1) p.2 ∧ p.2.depth ≤ 8) ∧ ps.length ≤ 1000 ∧ (ps.map (·.2)).Nodup ∧ Q (.int ps.length) H1
theorem pe_lenSetN {a : Expr} {ta : TE} {p p2 q pos : Pos} (hc : X.calm = true) (hu : X.A.units + 64 < cLine) (hg : Gl X "len") (hm : X.mg "len" = none) (hg2 : Gl X "set") (hm2 : X.mg "set" = none) (ha : PE X a ta)
    (na : starEach [a] X.env = (false, eval a X.env) :: starEach [] X.env := by rfl) (nb : starEach [.Call (.Name "set" p2) [a] [] q] X.env = (false, eval (.Call (.Name "set" p2) [a] [] q) X.env) :: starEach [] X.env := by rfl) :
    PE X (.Call (.Name "len" p) [.Call (.Name "set" p2) [a] [] q] [] pos) (tLenSetN X.K ta) := by
  refine ⟨fun pins s σ H Q I h => ?_⟩
  refine Call_ (ld_blt I hg hm PySem.boot_len ?_)
  refine PyProof.Rows.callWith_builtin1 (PyProof.Rows.args_cons ?_ nb) nb rfl
  refine Call_ (ld_blt I hg2 hm2 PyProof.Rows.boot_set ?_)
  refine PyProof.Rows.callWith_type1 (PyProof.Rows.args_cons (thn (ha.run pins s σ H _ I h) fun v s1 ⟨x, H1, I1, r1, g⟩ => PyProof.Rows.args_nil ?_) na) na rfl
  obtain ⟨l, ps, rfl, hq, hk, few, nd, g⟩ := g
  cases r1
  obtain ⟨its, r, pl, hz⟩ := I1.list hq
  refine call_set_new (w := X.w) ps (I1.ok.hd hc) pl.isList (by simpa using refs_vals r) (fun p hp => ⟨(hk p hp).1.is I1.hok rfl, (hk p hp).2, (hk p hp).1.pure⟩) nd few (by omega) fun h' tk L es ep t hS pm kp => ?_
  refine PyProof.Rows.args_nil ?_
  have I2 : Inv X pins σ H1 { s1 with heap := h', toks := tk } := I1.kept kp
  obtain ⟨o, g1, g2, g3⟩ := hS.at_
  have n1 := (size_rows hS.rows).trans pm.length_eq
  exact call_len_set g1 g2 g3 (SetN.fits (s := { s1 with heap := h', toks := tk }) hS) (by rw [n1]; omega) ⟨.int ps.length, H1, I2.tok _, ⟨_, by rw [n1]⟩, g⟩
end
/-- the list is of tuples, none of them twice -/
@[irreducible] def nodK (ds : List D) (f : Prop) : Prop := ∃ ks, nksOf ds = some ks ∧ (∀ k ∈ ks, tupN k = true ∧ k.depth ≤ 8) ∧ ks.length ≤ 1000 ∧ ks.Nodup ∧ f
theorem nodK_of {ds : List D} {f : Prop} (h : nodK ds f) : ∃ ks, nksOf ds = some ks ∧ (∀ k ∈ ks, tupN k = true ∧ k.depth ≤ 8) ∧ ks.length ≤ 1000 ∧ ks.Nodup ∧ f := by unfold nodK at h; exact h
theorem nks_len : ∀ {ds : List D} {ks : List NK}, nksOf ds = some ks → ks.length = ds.length
  | [], ks, h => by rw [nksOf] at h; cases h; rfl
  | d :: ds, ks, h => by
    rw [nksOf] at h
    split at h
    · split at h
      · rename_i e
        cases h
        rw [List.length_cons, List.length_cons, nks_len e]
      · cases h
    · cases h
def dLenSetN (f : DE) : DE := fun ρ P PX => f ρ (fun o ρ1 => vw1 ρ1 o fun d => match d with
  | .list ds => nodK ds (P (.d (.int ds.length)) ρ1)
  | _ => False) PX
section
variable {X : Cx} {G : V → Nat → Option Addr → Prop} {W : WX} {a : Expr} {fa : DE} {px q pos pos' : Pos}
theorem e_lensetN (hc : X.calm = true) (hu : X.A.units + 64 < cLine) (hg : Gl X "len") (hm : X.mg "len" = none) (hg2 : Gl X "set") (hm2 : X.mg "set" = none) (ha : PEd X G W a fa)
    (na : starEach [a] X.env = (false, eval a X.env) :: starEach [] X.env := by rfl) (nb : starEach [.Call (.Name "set" px) [a] [] q] X.env = (false, eval (.Call (.Name "set" px) [a] [] q) X.env) :: starEach [] X.env := by rfl) :
    PEd X G W (.Call (.Name "len" pos') [.Call (.Name "set" px) [a] [] q] [] pos) (dLenSetN fa) := PE.weak (pe_lenSetN hc hu hg hm hg2 hm2 ha na nb) fun σ H Q qq => by
  obtain ⟨F, I, ρ, P, PX, R, f1, k, x⟩ := qq
  refine ⟨F, I, ρ, _, PX, R, f1, fun o ρ1 v F1 I1 H1 f2 s1 R1 r1 => ?_, x⟩
  obtain ⟨d, e, f2⟩ := vw1_of f2
  have hd0 := vw_ok R1 r1 e
  split at f2
  · obtain ⟨ks, e1, e2, e3, e4, f3⟩ := nodK_of f2
    obtain ⟨l, vs, rfl, h1, h2⟩ := hd0.list R1.sub
    obtain ⟨ps, rfl, rfl, h3⟩ := tup_refs (nks_v h2 e1) fun k hk => (e2 k hk).1
    have ln := nks_len e1
    rw [List.length_map] at e3 ln
    refine ⟨l, ps, rfl, SqL.of h1, fun p hp => ⟨(h3 p hp).keep fun a o xs g => R1.sub _ _ g, (e2 p.2 (List.mem_map.mpr ⟨p, hp, rfl⟩)).2⟩, e3, e4, ?_⟩
    rw [ln]
    exact k _ ρ1 _ F1 I1 H1 f3 s1 R1 (.int _)
  · exact f2.elim
end
/-! ### places -/
def nkPl (p : Pl) : NK := .tup [.num p.1, nkH p.2.1, nkH p.2.2]
theorem nkOf_Pl (p : Pl) : nkOf (plD p) = some (nkPl p) := by
  unfold plD nkPl
  rw [nkOf, nksOf, nkOf, nksOf, nkOf_H, nksOf, nkOf_H, nksOf]
  rfl
theorem nkPl_inj {a b : Pl} (e : nkPl a = nkPl b) : a = b := by
  unfold nkPl at e
  injection e with e
  injection e with e1 e2
  injection e2 with e2 e3
  injection e3 with e3 _
  injection e1 with e1
  exact Prod.ext e1 (Prod.ext (nkH_inj.mp e2) (nkH_inj.mp e3))
theorem depth_nkPl (p : Pl) : (nkPl p).depth = 2 := by
  unfold nkPl
  rw [NestedKey.depth, NestedKey.depthAll, NestedKey.depthAll, NestedKey.depthAll, NestedKey.depthAll, NestedKey.depth, depth_nkH, depth_nkH]
  rfl
theorem nodK_pl {rows : List Pl} {f : Prop} (nd : rows.Nodup) (few : rows.length ≤ 1000) (q : f) : nodK (rows.map plD) f := by
  unfold nodK
  refine ⟨rows.map nkPl, nks_map nkOf_Pl rows, fun k hk => ?_, by rw [List.length_map]; exact few, ?_, q⟩
  · obtain ⟨p, _, rfl⟩ := List.mem_map.mp hk
    exact ⟨rfl, by rw [depth_nkPl]; omega⟩
  · exact List.Pairwise.map _ (fun a b ne e => ne (nkPl_inj e)) nd
end Dt

/-! # Dt: lines whose words are exchanged; what a desk makes of them -/
namespace Dt
open PySem PySem.Spec PyProof.Rows L2
@[irreducible] def wdK (d : D) (k : Wd → Prop) : Prop := ∃ b, d = wdD b ∧ k b
theorem wdK_in {b : Wd} {k : Wd → Prop} (h : k b) : wdK (wdD b) k := by unfold wdK; exact ⟨b, rfl, h⟩
end Dt

namespace K54
open PySem PySem.Spec PyProof.Rows L2 Dt
structure Txt (K : PySem.W.Frag) (mg : Str → Option Value) where
  ca : Nat → Addr
  xf : XF K mg [0, 2, 7, 8, 9, 17, 18, 19, 20] ca
  fI_17 : Addr
  dI_17 : FuncData
  FI_17 : Fun K "__init__" "NoHeap.__init__" sI_17 fI_17 dI_17
  bI_17 : Binds K dI_17 ["self", "part"] []
  iC_17 : PySem.W.findIn K (.ref (ca 17)) "__init__" = some (some (.ref fI_17))
  tI_17 : PySem.W.typeIn K (.ref fI_17) = some (.type "function")
  oex_17 : oexB K (ca 17) = true
  no_17_part : PySem.W.findIn K (.ref (ca 17)) "part" = some none
  fI_18 : Addr
  dI_18 : FuncData
  FI_18 : Fun K "__init__" "NotKept.__init__" sI_18 fI_18 dI_18
  bI_18 : Binds K dI_18 ["self", "number"] []
  iC_18 : PySem.W.findIn K (.ref (ca 18)) "__init__" = some (some (.ref fI_18))
  tI_18 : PySem.W.typeIn K (.ref fI_18) = some (.type "function")
  oex_18 : oexB K (ca 18) = true
  no_18_number : PySem.W.findIn K (.ref (ca 18)) "number" = some none
  fI_19 : Addr
  dI_19 : FuncData
  FI_19 : Fun K "__init__" "Unmatched.__init__" sI_19 fI_19 dI_19
  bI_19 : Binds K dI_19 ["self", "choice", "one", "other"] []
  iC_19 : PySem.W.findIn K (.ref (ca 19)) "__init__" = some (some (.ref fI_19))
  tI_19 : PySem.W.typeIn K (.ref fI_19) = some (.type "function")
  oex_19 : oexB K (ca 19) = true
  no_19_choice : PySem.W.findIn K (.ref (ca 19)) "choice" = some none
  no_19_one : PySem.W.findIn K (.ref (ca 19)) "one" = some none
  no_19_other : PySem.W.findIn K (.ref (ca 19)) "other" = some none
  fI_20 : Addr
  dI_20 : FuncData
  FI_20 : Fun K "__init__" "TooLong.__init__" sI_20 fI_20 dI_20
  bI_20 : Binds K dI_20 ["self", "place"] []
  iC_20 : PySem.W.findIn K (.ref (ca 20)) "__init__" = some (some (.ref fI_20))
  tI_20 : PySem.W.typeIn K (.ref fI_20) = some (.type "function")
  oex_20 : oexB K (ca 20) = true
  no_20_place : PySem.W.findIn K (.ref (ca 20)) "place" = some none
  f_chosen : Addr
  d_chosen : FuncData
  F_chosen : Fun K "chosen" "chosen" s_chosen f_chosen d_chosen
  b_chosen : Binds K d_chosen ["numbers"] []
  g_chosen : mg "chosen" = some (.ref f_chosen)
  f_choices_of : Addr
  d_choices_of : FuncData
  F_choices_of : Fun K "choices_of" "choices_of" s_choices_of f_choices_of d_choices_of
  b_choices_of : Binds K d_choices_of ["rule"] []
  g_choices_of : mg "choices_of" = some (.ref f_choices_of)
  f_unlike_parts : Addr
  d_unlike_parts : FuncData
  F_unlike_parts : Fun K "unlike_parts" "unlike_parts" s_unlike_parts f_unlike_parts d_unlike_parts
  b_unlike_parts : Binds K d_unlike_parts ["heaps"] []
  g_unlike_parts : mg "unlike_parts" = some (.ref f_unlike_parts)
  f_joined : Addr
  d_joined : FuncData
  F_joined : Fun K "joined" "joined" s_joined f_joined d_joined
  b_joined : Binds K d_joined ["heaps"] []
  g_joined : mg "joined" = some (.ref f_joined)
  f_joined_of : Addr
  d_joined_of : FuncData
  F_joined_of : Fun K "joined_of" "joined_of" s_joined_of f_joined_of d_joined_of
  b_joined_of : Binds K d_joined_of ["rule", "choice"] []
  g_joined_of : mg "joined_of" = some (.ref f_joined_of)
  f_sum_of : Addr
  d_sum_of : FuncData
  F_sum_of : Fun K "sum_of" "sum_of" s_sum_of f_sum_of d_sum_of
  b_sum_of : Binds K d_sum_of ["heap"] []
  g_sum_of : mg "sum_of" = some (.ref f_sum_of)
  f_sums_of : Addr
  d_sums_of : FuncData
  F_sums_of : Fun K "sums_of" "sums_of" s_sums_of f_sums_of d_sums_of
  b_sums_of : Binds K d_sums_of ["rule"] []
  g_sums_of : mg "sums_of" = some (.ref f_sums_of)
  f_first_unlike : Addr
  d_first_unlike : FuncData
  F_first_unlike : Fun K "first_unlike" "first_unlike" s_first_unlike f_first_unlike d_first_unlike
  b_first_unlike : Binds K d_first_unlike ["one", "other"] []
  g_first_unlike : mg "first_unlike" = some (.ref f_first_unlike)
  f_Beside : Addr
  d_Beside : FuncData
  F_Beside : Fun K "__init__" "Beside.__init__" s_Beside f_Beside d_Beside
  b_Beside : Binds K d_Beside ["self", "one", "other"] []
  cB : Addr
  bes : BesT K mg cB
  mk_Beside : Mk K cB f_Beside
  f_Beside_back : Addr
  d_Beside_back : FuncData
  F_Beside_back : Fun K "back" "Beside.back" s_Beside_back f_Beside_back d_Beside_back
  b_Beside_back : Binds K d_Beside_back ["self"] []
  m_Beside_back : Meth K cB "back" f_Beside_back
  f__law_mix : Addr
  d__law_mix : FuncData
  F__law_mix : Fun K "_law_mix" "_law_mix" s__law_mix f__law_mix d__law_mix
  b__law_mix : Binds K d__law_mix ["_law_state"] []
  g__law_mix : mg "_law_mix" = some (.ref f__law_mix)
  f__law_draw : Addr
  d__law_draw : FuncData
  F__law_draw : Fun K "_law_draw" "_law_draw" s__law_draw f__law_draw d__law_draw
  b__law_draw : Binds K d__law_draw ["_law_state", "_law_many"] []
  g__law_draw : mg "_law_draw" = some (.ref f__law_draw)
  f__law_lies : Addr
  d__law_lies : FuncData
  F__law_lies : Fun K "_law_lies" "_law_lies" s__law_lies f__law_lies d__law_lies
  b__law_lies : Binds K d__law_lies ["_law_one", "_law_other"] []
  g__law_lies : mg "_law_lies" = some (.ref f__law_lies)
  f__law_first : Addr
  d__law_first : FuncData
  F__law_first : Fun K "_law_first" "_law_first" s__law_first f__law_first d__law_first
  b__law_first : Binds K d__law_first ["_law_rule_here", "_law_heap_here"] []
  g__law_first : mg "_law_first" = some (.ref f__law_first)
  f__law_heap : Addr
  d__law_heap : FuncData
  F__law_heap : Fun K "_law_heap" "_law_heap" s__law_heap f__law_heap d__law_heap
  b__law_heap : Binds K d__law_heap ["_law_state", "_law_size", "_law_top"] []
  g__law_heap : mg "_law_heap" = some (.ref f__law_heap)
  f__law_held : Addr
  d__law_held : FuncData
  F__law_held : Fun K "_law_held" "_law_held" s__law_held f__law_held d__law_held
  b__law_held : Binds K d__law_held ["_law_one", "_law_other"] []
  g__law_held : mg "_law_held" = some (.ref f__law_held)
  f__law_choices : Addr
  d__law_choices : FuncData
  F__law_choices : Fun K "_law_choices" "_law_choices" s__law_choices f__law_choices d__law_choices
  b__law_choices : Binds K d__law_choices ["_law_many"] []
  g__law_choices : mg "_law_choices" = some (.ref f__law_choices)
  f__law_joined : Addr
  d__law_joined : FuncData
  F__law_joined : Fun K "_law_joined" "_law_joined" s__law_joined f__law_joined d__law_joined
  b__law_joined : Binds K d__law_joined ["_law_heaps"] []
  g__law_joined : mg "_law_joined" = some (.ref f__law_joined)
  f__law_match : Addr
  d__law_match : FuncData
  F__law_match : Fun K "_law_match" "_law_match" s__law_match f__law_match d__law_match
  b__law_match : Binds K d__law_match ["_law_one", "_law_other"] []
  g__law_match : mg "_law_match" = some (.ref f__law_match)
  f__law_partings : Addr
  d__law_partings : FuncData
  F__law_partings : Fun K "_law_partings" "_law_partings" s__law_partings f__law_partings d__law_partings
  b__law_partings : Binds K d__law_partings ["_law_n", "_law_top"] []
  g__law_partings : mg "_law_partings" = some (.ref f__law_partings)
  f__law_same : Addr
  d__law_same : FuncData
  F__law_same : Fun K "_law_same" "_law_same" s__law_same f__law_same d__law_same
  b__law_same : Binds K d__law_same ["_law_found", "_law_due"] []
  g__law_same : mg "_law_same" = some (.ref f__law_same)
  f__law_start : Addr
  d__law_start : FuncData
  F__law_start : Fun K "_law_start" "_law_start" s__law_start f__law_start d__law_start
  b__law_start : Binds K d__law_start ["_law_script"] []
  g__law_start : mg "_law_start" = some (.ref f__law_start)
  f__law_less : Addr
  d__law_less : FuncData
  F__law_less : Fun K "_law_less" "_law_less" s__law_less f__law_less d__law_less
  b__law_less : Binds K d__law_less ["_law_heap_here", "_law_out"] []
  g__law_less : mg "_law_less" = some (.ref f__law_less)
  f__law_put : Addr
  d__law_put : FuncData
  F__law_put : Fun K "_law_put" "_law_put" s__law_put f__law_put d__law_put
  b__law_put : Binds K d__law_put ["_law_one", "_law_other"] []
  g__law_put : mg "_law_put" = some (.ref f__law_put)
  f__law_crossed : Addr
  d__law_crossed : FuncData
  F__law_crossed : Fun K "_law_crossed" "_law_crossed" s__law_crossed f__law_crossed d__law_crossed
  b__law_crossed : Binds K d__law_crossed ["_law_rules", "_law_place"] []
  g__law_crossed : mg "_law_crossed" = some (.ref f__law_crossed)
  f__law_toggled : Addr
  d__law_toggled : FuncData
  F__law_toggled : Fun K "_law_toggled" "_law_toggled" s__law_toggled f__law_toggled d__law_toggled
  b__law_toggled : Binds K d__law_toggled ["_law_rules", "_law_place"] []
  g__law_toggled : mg "_law_toggled" = some (.ref f__law_toggled)
  f__law_steps_right : Addr
  d__law_steps_right : FuncData
  F__law_steps_right : Fun K "_law_steps_right" "_law_steps_right" s__law_steps_right f__law_steps_right d__law_steps_right
  b__law_steps_right : Binds K d__law_steps_right ["_law_rules", "_law_rows"] []
  g__law_steps_right : mg "_law_steps_right" = some (.ref f__law_steps_right)
  f_Beside_rules : Addr
  d_Beside_rules : FuncData
  F_Beside_rules : Fun K "rules" "Beside.rules" s_Beside_rules f_Beside_rules d_Beside_rules
  b_Beside_rules : Binds K d_Beside_rules ["self"] []
  m_Beside_rules : Meth K cB "rules" f_Beside_rules
  f_lies_in : Addr
  d_lies_in : FuncData
  F_lies_in : Fun K "lies_in" "lies_in" s_lies_in f_lies_in d_lies_in
  b_lies_in : Binds K d_lies_in ["one", "other"] []
  g_lies_in : mg "lies_in" = some (.ref f_lies_in)
  f_all_in : Addr
  d_all_in : FuncData
  F_all_in : Fun K "all_in" "all_in" s_all_in f_all_in d_all_in
  b_all_in : Binds K d_all_in ["rule", "heap"] []
  g_all_in : mg "all_in" = some (.ref f_all_in)
  f_first_in : Addr
  d_first_in : FuncData
  F_first_in : Fun K "first_in" "first_in" s_first_in f_first_in d_first_in
  b_first_in : Binds K d_first_in ["rule", "heap"] []
  g_first_in : mg "first_in" = some (.ref f_first_in)
  f_held_keeper : Addr
  d_held_keeper : FuncData
  F_held_keeper : Fun K "held_keeper" "held_keeper" s_held_keeper f_held_keeper d_held_keeper
  b_held_keeper : Binds K d_held_keeper ["sided", "heap"] []
  g_held_keeper : mg "held_keeper" = some (.ref f_held_keeper)
  f_is_pair : Addr
  d_is_pair : FuncData
  F_is_pair : Fun K "is_pair" "is_pair" s_is_pair f_is_pair d_is_pair
  b_is_pair : Binds K d_is_pair ["rule", "heap", "choice"] []
  g_is_pair : mg "is_pair" = some (.ref f_is_pair)
  f_held_pair : Addr
  d_held_pair : FuncData
  F_held_pair : Fun K "held_pair" "held_pair" s_held_pair f_held_pair d_held_pair
  b_held_pair : Binds K d_held_pair ["rule", "pair"] []
  g_held_pair : mg "held_pair" = some (.ref f_held_pair)
  f_heap_of : Addr
  d_heap_of : FuncData
  F_heap_of : Fun K "heap_of" "heap_of" s_heap_of f_heap_of d_heap_of
  b_heap_of : Binds K d_heap_of ["parts"] []
  g_heap_of : mg "heap_of" = some (.ref f_heap_of)
  f_put : Addr
  d_put : FuncData
  F_put : Fun K "put" "put" s_put f_put d_put
  b_put : Binds K d_put ["one", "other"] []
  g_put : mg "put" = some (.ref f_put)
  f_sides_of : Addr
  d_sides_of : FuncData
  F_sides_of : Fun K "sides_of" "sides_of" s_sides_of f_sides_of d_sides_of
  b_sides_of : Binds K d_sides_of ["sided", "side"] []
  g_sides_of : mg "sides_of" = some (.ref f_sides_of)
  f_taken : Addr
  d_taken : FuncData
  F_taken : Fun K "taken" "taken" s_taken f_taken d_taken
  b_taken : Binds K d_taken ["one", "other"] []
  g_taken : mg "taken" = some (.ref f_taken)
  f_crossed : Addr
  d_crossed : FuncData
  F_crossed : Fun K "crossed" "crossed" s_crossed f_crossed d_crossed
  b_crossed : Binds K d_crossed ["sided", "place"] []
  g_crossed : mg "crossed" = some (.ref f_crossed)
  f_keeps : Addr
  d_keeps : FuncData
  F_keeps : Fun K "keeps" "keeps" s_keeps f_keeps d_keeps
  b_keeps : Binds K d_keeps ["rule", "heap"] []
  g_keeps : mg "keeps" = some (.ref f_keeps)
  f_partner_of : Addr
  d_partner_of : FuncData
  F_partner_of : Fun K "partner_of" "partner_of" s_partner_of f_partner_of d_partner_of
  b_partner_of : Binds K d_partner_of ["rule", "pair"] []
  g_partner_of : mg "partner_of" = some (.ref f_partner_of)
  f_toggled : Addr
  d_toggled : FuncData
  F_toggled : Fun K "toggled" "toggled" s_toggled f_toggled d_toggled
  b_toggled : Binds K d_toggled ["sided", "place"] []
  g_toggled : mg "toggled" = some (.ref f_toggled)
  f_next_place : Addr
  d_next_place : FuncData
  F_next_place : Fun K "next_place" "next_place" s_next_place f_next_place d_next_place
  b_next_place : Binds K d_next_place ["sided", "place", "toggle"] []
  g_next_place : mg "next_place" = some (.ref f_next_place)
  f_walk_of : Addr
  d_walk_of : FuncData
  F_walk_of : FunD K "walk_of" "walk_of" (defArgs s_walk_of) (defBody s_walk_of) (defScope s_walk_of) [.int 1000] [] f_walk_of d_walk_of
  b_walk_of : Binds K d_walk_of ["sided", "heap", "most"] []
  bd_walk_of : ∃ ds, Vals [V.int 1000] ds ∧ Binds K d_walk_of ["sided", "heap", "most"] ds
  kb_walk_of : KBn K d_walk_of ["sided", "heap", "most"] 2 ["most"] (fun us ws => us ++ ws) (fun vs zs => vs ++ zs)
  g_walk_of : mg "walk_of" = some (.ref f_walk_of)
  f__law_told : Addr
  d__law_told : FuncData
  F__law_told : Fun K "_law_told" "_law_told" s__law_told f__law_told d__law_told
  b__law_told : Binds K d__law_told ["_law_sided", "_law_heap_here"] []
  g__law_told : mg "_law_told" = some (.ref f__law_told)
  f__law_lane : Addr
  d__law_lane : FuncData
  F__law_lane : Fun K "_law_lane" "_law_lane" s__law_lane f__law_lane d__law_lane
  b__law_lane : Binds K d__law_lane ["_law_left", "_law_right", "_law_split", "_law_levels"] []
  g__law_lane : mg "_law_lane" = some (.ref f__law_lane)
  f__law_rule : Addr
  d__law_rule : FuncData
  F__law_rule : Fun K "_law_rule" "_law_rule" s__law_rule f__law_rule d__law_rule
  b__law_rule : Binds K d__law_rule ["_law_rows"] []
  g__law_rule : mg "_law_rule" = some (.ref f__law_rule)
  f__law_matched : Addr
  d__law_matched : FuncData
  F__law_matched : Fun K "_law_matched" "_law_matched" s__law_matched f__law_matched d__law_matched
  b__law_matched : Binds K d__law_matched ["_law_state", "_law_top"] []
  g__law_matched : mg "_law_matched" = some (.ref f__law_matched)
  f__law_raw_rule : Addr
  d__law_raw_rule : FuncData
  F__law_raw_rule : Fun K "_law_raw_rule" "_law_raw_rule" s__law_raw_rule f__law_raw_rule d__law_raw_rule
  b__law_raw_rule : Binds K d__law_raw_rule ["_law_state", "_law_many", "_law_size", "_law_top"] []
  g__law_raw_rule : mg "_law_raw_rule" = some (.ref f__law_raw_rule)
  f__law_two : Addr
  d__law_two : FuncData
  F__law_two : Fun K "_law_two" "_law_two" s__law_two f__law_two d__law_two
  b__law_two : Binds K d__law_two ["_law_state"] []
  g__law_two : mg "_law_two" = some (.ref f__law_two)
  f__law_walk : Addr
  d__law_walk : FuncData
  F__law_walk : Fun K "_law_walk" "_law_walk" s__law_walk f__law_walk d__law_walk
  b__law_walk : Binds K d__law_walk ["_law_rules", "_law_heap_here", "_law_limit"] []
  g__law_walk : mg "_law_walk" = some (.ref f__law_walk)
  f_is_walk : Addr
  d_is_walk : FuncData
  F_is_walk : Fun K "is_walk" "is_walk" s_is_walk f_is_walk d_is_walk
  b_is_walk : Binds K d_is_walk ["sided", "rows"] []
  g_is_walk : mg "is_walk" = some (.ref f_is_walk)
  f_law : Addr
  d_law : FuncData
  F_law : Fun K "law" "law" s_law f_law d_law
  b_law : Binds K d_law ["_law_script"] []
  g_law : mg "law" = some (.ref f_law)
  z_all : mg "all" = none
  z_bool : mg "bool" = none
  z_enumerate : mg "enumerate" = none
  z_int : mg "int" = none
  z_isinstance : mg "isinstance" = none
  z_len : mg "len" = none
  z_list : mg "list" = none
  z_max : mg "max" = none
  z_min : mg "min" = none
  z_range : mg "range" = none
  z_set : mg "set" = none
  z_sorted : mg "sorted" = none
  z_str : mg "str" = none
  z_sum : mg "sum" = none
  z_tuple : mg "tuple" = none
  z_zip : mg "zip" = none
def sp_chosen : DSp := fun os P PX => match os with
  | [.d (.list ds)] => ds.length ≤ 6 ∧ P (.tmp (.lst ((chosenL ds).map PyData.tuple))) [.d (.list ds)]
  | _ => False

def sp_choices_of : DSp := fun os P PX => match os with
  | [.d d] => ruleK d fun r => r.length ≤ 6 ∧ P (.tmp (.lst ((choicesL r.length).map hD))) [.d (rD r)]
  | _ => False

def sp_unlike_parts : DSp := fun os P PX => match os with
  | [.d (.list ds)] => lhK (.list ds) fun r => okJ r ∧ P (.tmp (.lst ((partsL r).map PyData.int))) [.d (.list (r.map hD))]
  | [.d (.tuple ds)] => ruleK (.tuple ds) fun r => okJ r ∧ P (.tmp (.lst ((partsL r).map PyData.int))) [.d (rD r)]
  | _ => False

def sp_joined : DSp := fun os P PX => match os with
  | [.d (.list ds)] => lhK (.list ds) fun r => okJ r ∧ P (.d (hD (joinL r))) [.d (.list (r.map hD))]
  | [.d (.tuple ds)] => ruleK (.tuple ds) fun r => okJ r ∧ P (.d (hD (joinL r))) [.d (rD r)]
  | _ => False

def sp_joined_of : DSp := fun os P PX => match os with
  | [.d d, .d e] => ruleK d fun r => heapK e fun c => okJ r ∧ c.length ≤ 1000 ∧ (∀ j ∈ c, 0 ≤ j ∧ j < r.length) ∧ P (.d (hD (joinL (pickC r c)))) [.d (rD r), .d (hD c)]
  | _ => False

def sp_sum_of : DSp := fun os P PX => match os with
  | [.d d] => heapK d fun h => P (.d (.int h.sum)) [.d (hD h)]
  | _ => False

def sumsL (r : List Heap1) : List (Heap1 × Int) := (choicesL r.length).map fun c => (c, (joinL (pickC r c)).sum)
def hiD (p : Heap1 × Int) : D := .tuple [hD p.1, .int p.2]
def sp_sums_of : DSp := fun os P PX => match os with
  | [.d d] => ruleK d fun r => r.length ≤ 6 ∧ okJ r ∧ P (.tmp (.lst ((sumsL r).map hiD))) [.d (rD r)]
  | _ => False

-- stop r1
def sp_first_unlike : DSp := fun os P PX => match os with
  | [.d d, .d e] => ruleK d fun r => ruleK e fun s => okJ r ∧ okJ s ∧ (decide (r.length = s.length) = true → r.length ≤ 6 ∧ P (.d (unlD (unlO r s))) [.d (rD r), .d (rD s)]) ∧ (decide (r.length = s.length) = false → PX ⟨9, []⟩ [.d (rD r), .d (rD s)])
  | _ => False

def sp_Beside : DSp := fun os P PX => match os with
  | [.d d, .d e] => ruleK d fun r => ruleK e fun s => okJ r ∧ okJ s ∧ (decide (r.length = s.length) = true → r.length ≤ 6 ∧ (decide (unlO r s = none) = true → P (.d (besD (rD r) (rD s))) [.d (rD r), .d (rD s)]) ∧ (decide (unlO r s = none) = false → ∀ c x y, unlO r s = some (c, x, y) → PX ⟨19, [("other", .int y), ("one", .int x), ("choice", hD c)]⟩ [.d (rD r), .d (rD s)])) ∧ (decide (r.length = s.length) = false → PX ⟨9, []⟩ [.d (rD r), .d (rD s)])
  | _ => False

def sp_Beside_back : DSp := fun os P PX => match os with
  | [.d d] => besK d fun l r => ruleK l fun a => ruleK r fun b => okJ a ∧ okJ b ∧ a.length = b.length ∧ a.length ≤ 6 ∧ unlO b a = none ∧ P (.d (besD (rD b) (rD a))) [.d (besD (rD a) (rD b))]
  | _ => False

def sp__law_lies : DSp := fun os P PX => match os with
  | [.d d, .d e] => heapK d fun h => heapK e fun g => P (.d (.bool (liesIn h g))) [.d (hD h), .d (hD g)]
  | _ => False

def sp__law_first : DSp := fun os P PX => match os with
  | [.d d, .d e] => ruleK d fun r => heapK e fun h => r.length ≤ 1000 ∧ P (.d (optI (firstN r h))) [.d (rD r), .d (hD h)]
  | _ => False

def sp__law_heap : DSp := fun os P PX => match os with
  | [.lent a (.st b), .d (.int n), .d (.int t)] => b ≤ 10 ^ 14 ∧ 0 ≤ n ∧ n ≤ 1000 ∧ 1 ≤ t ∧ t ≤ 10 ^ 70 ∧ ∀ (h : Heap1) b', isHeap h → (h.length : Int) ≤ n → (∀ x ∈ h, x ≤ t) → b ≤ b' → b' ≤ b + 9000 → P (.d (hD h)) [.lent a (.st b'), .d (.int n), .d (.int t)]
  | _ => False

def sp__law_held : DSp := fun os P PX => match os with
  | [.d d, .d e] => ruleK d fun r => ruleK e fun s => okJ r ∧ okJ s ∧ r.length = s.length ∧ r.length ≤ 6 ∧ P (.d (if (unlO r s).isNone then besD (rD r) (rD s) else .none)) [.d (rD r), .d (rD s)]
  | _ => False

def sp__law_choices : DSp := fun os P PX => match os with
  | [.d (.int m)] => 0 ≤ m ∧ m ≤ 6 ∧ P (.tmp (.lst ((choicesL m.toNat).map hD))) [.d (.int m)]
  | _ => False

def sp__law_joined : DSp := fun os P PX => match os with
  | [.d (.list ds)] => lhK (.list ds) fun r => okJ r ∧ P (.d (hD (joinL r))) [.d (.list (r.map hD))]
  | [.d (.tuple ds)] => ruleK (.tuple ds) fun r => okJ r ∧ P (.d (hD (joinL r))) [.d (rD r)]
  | _ => False

-- stop r1
def sp__law_match : DSp := fun os P PX => match os with
  | [.d d, .d e] => ruleK d fun r => ruleK e fun s => okJ r ∧ okJ s ∧ r.length = s.length ∧ r.length ≤ 6 ∧ P (.d (.bool (unlO r s).isNone)) [.d (rD r), .d (rD s)]
  | _ => False

-- depth 26
def sp__law_partings (k : Nat) : DSp := fun os P PX => match os with
  | [.d (.int n), .d (.int m)] => 0 ≤ n ∧ n < k ∧ n ≤ 24 ∧ 0 ≤ m ∧ m ≤ 1000 ∧ P (.tmp (.lst ((pts k n.toNat m.toNat).map hD))) [.d (.int n), .d (.int m)]
  | _ => False

-- depth 6
def sp__law_same (k : Nat) : DSp := fun os P PX => match os with
  | [.d d, .d e] => d = e ∧ okSame k e ∧ P (.d (.bool true)) [.d d, .d e]
  | _ => False

def sp__law_less : DSp := fun os P PX => match os with
  | [.d d, .d e] => heapK d fun h => heapK e fun a => h.length ≤ 1000 ∧ liesIn a h = true ∧ P (.d (hD (takeOff a h))) [.d (hD h), .d (hD a)]
  | _ => False

def sp__law_put : DSp := fun os P PX => match os with
  | [.d d, .d e] => heapK d fun a => heapK e fun b => a.length + b.length ≤ 1000 ∧ P (.d (hD (putH a b))) [.d (hD a), .d (hD b)]
  | _ => False

def sp__law_crossed : DSp := fun os P PX => match os with
  | [.d d, .d e] => rrK d fun a b => plK e fun p => Mates 6 a b ∧ isPlB a b p = true ∧ p.2.1.length ≤ 500 ∧ P (.d (plD (crossP a b p))) [.d (.tuple [rD a, rD b]), .d (plD p)]
  | _ => False

-- stop r1 r2
def sp__law_toggled : DSp := fun os P PX => match os with
  | [.d d, .d e] => rrK d fun a b => plK e fun p => a.length ≤ 1000 ∧ b.length ≤ 1000 ∧ p.2.2.length ≤ 100 ∧ (p.1 = 1 ∨ p.1 = 2) ∧ P (.d (opPl (togP a b p))) [.d (.tuple [rD a, rD b]), .d (plD p)]
  | _ => False

-- setrows
-- stop r1 r2
def WalkOk (a b : List Heap1) (rows : List Pl) : Prop := ∃ h, WholeW a b h rows ∧ h.sum ≤ 400
def sp__law_steps_right : DSp := fun os P PX => match os with
  | [.d d, .d e] => rrK d fun a b => lplK e fun rows => Mates 6 a b ∧ rows.length ≤ 1000 ∧ WalkOk a b rows ∧ P (.d (.bool true)) [.d (.tuple [rD a, rD b]), .d (.list (rows.map plD))]
  | _ => False

def sp_Beside_rules : DSp := fun os P PX => match os with
  | [.d d] => besK d fun l r => P (.d (.tuple [l, r])) [.d (besD l r)]
  | _ => False

def sp_lies_in : DSp := fun os P PX => match os with
  | [.d d, .d e] => heapK d fun h => heapK e fun g => P (.d (.bool (liesIn h g))) [.d (hD h), .d (hD g)]
  | _ => False

def sp_all_in : DSp := fun os P PX => match os with
  | [.d d, .d e] => ruleK d fun r => heapK e fun h => P (.tmp (.lst ((allIn r h).map PyData.int))) [.d (rD r), .d (hD h)]
  | _ => False

def sp_first_in : DSp := fun os P PX => match os with
  | [.d d, .d e] => ruleK d fun r => heapK e fun h => P (.d (optI (firstN r h))) [.d (rD r), .d (hD h)]
  | _ => False

def sp_held_keeper : DSp := fun os P PX => match os with
  | [.d d, .d e] => besR d fun a b => heapK e fun h => opNK (firstN a h) (fun j => PX ⟨18, [("number", .int j)]⟩ [.d (besD (rD a) (rD b)), .d (hD h)]) (P (.d .none) [.d (besD (rD a) (rD b)), .d (hD h)])
  | _ => False

-- stop r1
def sp_is_pair : DSp := fun os P PX => match os with
  | [.d d, .d e, .d f] => ruleK d fun r => heapK e fun h => heapK f fun c => r.length ≤ 1000 ∧ P (.d (.bool (isPairB r (h, c)))) [.d (rD r), .d (hD h), .d (hD c)]
  | _ => False

-- stop r1
def sp_held_pair : DSp := fun os P PX => match os with
  | [.d d, .d e] => ruleK d fun r => prK e fun p => r.length ≤ 1000 ∧ (isPairB r p = true → P (.d (hpD p)) [.d (rD r), .d (hpD p)]) ∧ (isPairB r p = false → PX ⟨7, []⟩ [.d (rD r), .d (hpD p)])
  | _ => False

def heapOf (ns : List Int) (d : D) (P : O → List S → Prop) (PX : Exn → List S → Prop) : Prop := (∀ x, ns.find? (fun y => decide (y < 1)) = some x → PX ⟨17, [("part", .int x)]⟩ [.d d]) ∧ (ns.find? (fun y => decide (y < 1)) = none → P (.d (hD (srt ns).reverse)) [.d d])
def sp_heap_of : DSp := fun os P PX => match os with
  | [.d (.list ds)] => ds.length ≤ 4000 ∧ intsK ds fun ns => heapOf ns (.list ds) P PX
  | [.d (.tuple ds)] => ds.length ≤ 4000 ∧ intsK ds fun ns => heapOf ns (.tuple ds) P PX
  | _ => False

def sp_put : DSp := fun os P PX => match os with
  | [.d d, .d e] => heapK d fun a => heapK e fun b => (∀ x ∈ a ++ b, 1 ≤ x) ∧ a.length + b.length ≤ 4000 ∧ P (.d (hD (putH a b))) [.d (hD a), .d (hD b)]
  | _ => False

def sp_sides_of : DSp := fun os P PX => match os with
  | [.d d, .d (.int i)] => besK d fun l r => (i = 1 ∧ P (.d (.tuple [l, r])) [.d (besD l r), .d (.int i)]) ∨ (i = 2 ∧ P (.d (.tuple [r, l])) [.d (besD l r), .d (.int i)]) ∨ ((i ≠ 1 ∧ i ≠ 2) ∧ PX ⟨7, []⟩ [.d (besD l r), .d (.int i)])
  | _ => False

def sp_taken : DSp := fun os P PX => match os with
  | [.d d, .d e] => heapK d fun a => heapK e fun b => b.length ≤ 4000 ∧ (liesIn a b = true → P (.d (hD (takeOff a b))) [.d (hD a), .d (hD b)]) ∧ (liesIn a b = false → PX ⟨2, []⟩ [.d (hD a), .d (hD b)])
  | _ => False

-- cut rule
def sp_crossed : DSp := fun os P PX => match os with
  | [.d d, .d e] => besR d fun a b => plK e fun p => Mates 6 a b ∧ isHeap p.2.1 ∧ p.2.1.length ≤ 2000 ∧ (isPlB a b p = true → P (.d (plD (crossP a b p))) [.d (besD (rD a) (rD b)), .d (plD p)]) ∧ (isPlB a b p = false → PX ⟨7, []⟩ [.d (besD (rD a) (rD b)), .d (plD p)])
  | _ => False

def sp_keeps : DSp := fun os P PX => match os with
  | [.d d, .d e] => ruleK d fun r => heapK e fun h => P (.d (.bool (keepB r h))) [.d (rD r), .d (hD h)]
  | _ => False

-- stop r1 r2
def sp_partner_of : DSp := fun os P PX => match os with
  | [.d d, .d e] => ruleK d fun r => prK e fun p => r.length ≤ 1000 ∧ p.2.length ≤ 1000 ∧ (isPairB r p = true → P (.d (opD (partL r p))) [.d (rD r), .d (hpD p)]) ∧ (isPairB r p = false → PX ⟨7, []⟩ [.d (rD r), .d (hpD p)])
  | _ => False

def sp_toggled : DSp := fun os P PX => match os with
  | [.d d, .d e] => besR d fun a b => plK e fun p => a.length ≤ 6 ∧ b.length ≤ 6 ∧ p.2.2.length ≤ 100 ∧ (isPlB a b p = true → (∀ q, togP a b p = some q → P (.d (plD q)) [.d (besD (rD a) (rD b)), .d (plD p)]) ∧ (togP a b p = none → PX ⟨8, []⟩ [.d (besD (rD a) (rD b)), .d (plD p)])) ∧ (isPlB a b p = false → PX ⟨7, []⟩ [.d (besD (rD a) (rD b)), .d (plD p)])
  | _ => False

-- stop r1 r2
def sp_next_place : DSp := fun os P PX => match os with
  | [.d d, .d e, .d (.bool false)] => besR d fun a b => plK e fun p => Mates 6 a b ∧ isHeap p.2.1 ∧ p.2.1.length ≤ 2000 ∧ isPlB a b p = true ∧ P (.d (plD (crossP a b p))) [.d (besD (rD a) (rD b)), .d (plD p), .d (.bool false)]
  | [.d d, .d e, .d (.bool true)] => besR d fun a b => plK e fun p => Mates 6 a b ∧ isPlB a b p = true ∧ (togP a b p = none → p.1 = 2) ∧ P (.d (opPl (togP a b p))) [.d (besD (rD a) (rD b)), .d (plD p), .d (.bool true)]
  | _ => False

-- stop r1 r2 r3 r4
-- cut rows place
def sp_walk_of : DSp := fun os P PX => match os with
  | [.d d, .d e, .d (.int L)] => besR d fun a b => heapK e fun h => Mates 6 a b ∧ isHeap h ∧ h.sum ≤ 2000 ∧ 1 ≤ L ∧ L ≤ 100000 ∧ opNK (firstN a h) (fun j => PX ⟨18, [("number", .int j)]⟩ [.d (besD (rD a) (rD b)), .d (hD h), .d (.int L)])
      ((decide ((rowsL a b L.toNat 1 (1, h, [])).length ≤ L.toNat) = true → P (.tmp (.lst ((rowsL a b L.toNat 1 (1, h, [])).map plD))) [.d (besD (rD a) (rD b)), .d (hD h), .d (.int L)]) ∧
       (decide ((rowsL a b L.toNat 1 (1, h, [])).length ≤ L.toNat) = false → PX ⟨20, [("place", plD ((rowsL a b L.toNat 1 (1, h, [])).getD (L.toNat - 1) (1, h, [])))]⟩ [.d (besD (rD a) (rD b)), .d (hD h), .d (.int L)]))
  | _ => False

def toldW (a b : List Heap1) (h : Heap1) : O := match firstN a h with
  | some j => .d (.tuple [.int j, .int 0])
  | none => if (rowsL a b 400 1 (1, h, [])).length ≤ 400 then .tmp (.lst ((rowsL a b 400 1 (1, h, [])).map plD)) else .d (.tuple [plD ((rowsL a b 400 1 (1, h, [])).getD 399 (1, h, [])), .int 400])
def sp__law_told : DSp := fun os P PX => match os with
  | [.d d, .d e] => besR d fun a b => heapK e fun h => Mates 6 a b ∧ isHeap h ∧ h.sum ≤ 2000 ∧ P (toldW a b h) [.d (besD (rD a) (rD b)), .d (hD h)]
  | _ => False

-- stop r1 r2
def sp__law_lane : DSp := fun os P PX => match os with
  | [.d (.int l), .d (.int r), .d (.bool s), .d (.list ds)] => intsK ds fun ns => (1 ≤ l ∧ l ≤ 8) ∧ (1 ≤ r ∧ r ≤ 8) ∧ ns.length ≤ 6 ∧ (∀ x ∈ ns, 0 ≤ x ∧ x < 3) ∧ (s = true → l % r = 0 ∧ r < l) ∧ ∀ f g, LaneP l r s f g → P (.d (.tuple [.list ((ns.map fun x => f x.toNat).map lD), .list ((ns.map fun x => g x.toNat).map lD)])) [.d (.int l), .d (.int r), .d (.bool s), .d (.list (ns.map PyData.int))]
  | _ => False

def sp__law_rule : DSp := fun os P PX => match os with
  | [.d (.list ds)] => llK (.list ds) fun r => okJ r ∧ P (.d (rD (ordR r))) [.d (.list (r.map lD))]
  | _ => False

-- stop r1 r2 r3 r4
-- cut _law_split
def sp__law_matched : DSp := fun os P PX => match os with
  | [.lent a (.st b), .d (.int top)] => b ≤ 10 ^ 13 ∧ 0 ≤ top ∧ top ≤ 6 ∧ ∀ (r s : List Heap1) b', Mates top.toNat r s → b ≤ b' → b' ≤ b + 2000 → P (.d (.tuple [rD r, rD s])) [.lent a (.st b'), .d (.int top)]
  | _ => False

def sp__law_raw_rule : DSp := fun os P PX => match os with
  | [.lent a (.st b), .d (.int m), .d (.int n), .d (.int t)] => b ≤ 10 ^ 13 ∧ 0 ≤ m ∧ m ≤ 100 ∧ 0 ≤ n ∧ n ≤ 1000 ∧ 1 ≤ t ∧ t ≤ 10 ^ 70 ∧ ∀ (r : List Heap1) b', (r.length : Int) = m → (∀ h ∈ r, isHeap h ∧ (h.length : Int) ≤ n ∧ ∀ x ∈ h, x ≤ t) → b ≤ b' → b' ≤ b + 900000 → P (.d (rD r)) [.lent a (.st b'), .d (.int m), .d (.int n), .d (.int t)]
  | _ => False

-- stop r1
-- cut _law_one
structure PreM (r s : List Heap1) : Prop where
  len : r.length = s.length
  most : r.length ≤ 6
  h1 : ∀ h ∈ r, isHeap h ∧ h.length ≤ 60 ∧ ∀ x ∈ h, x ≤ 64
  h2 : ∀ h ∈ s, isHeap h ∧ h.length ≤ 60 ∧ ∀ x ∈ h, x ≤ 64
def sp__law_two : DSp := fun os P PX => match os with
  | [.lent a (.st b)] => b ≤ 10 ^ 12 ∧ ∀ (r s : List Heap1) b', PreM r s → b ≤ b' → b' ≤ b + 2000000 → P (.d (.tuple [rD r, rD s])) [.lent a (.st b')]
  | _ => False

-- stop r1 r2 r3
def sp__law_walk : DSp := fun os P PX => match os with
  | [.d d, .d e, .d (.int L)] => rrK d fun a b => heapK e fun h => Mates 6 a b ∧ isHeap h ∧ h.sum ≤ 400 ∧ 0 ≤ L ∧ L ≤ 100000 ∧ P (.tmp (.lst ((rowsL a b L.toNat 1 (1, h, [])).map plD))) [.d (.tuple [rD a, rD b]), .d (hD h), .d (.int L)]
  | _ => False

-- stop r1 r2 r3 r4 r5
-- cut place
def sp_is_walk : DSp := fun os P PX => match os with
  | [.d d, .d e] => besR d fun a b => lplK e fun rows => Mates 6 a b ∧ (∀ p t, rows = p :: t → isHeap p.2.1 ∧ p.2.1.sum ≤ 2000) ∧ P (.d (.bool (isWalkB a b rows))) [.d (besD (rD a) (rD b)), .d (.list (rows.map plD))]
  | _ => False

-- stop r1 r2 r3 r4 r5 r6 r7 r8 r9
-- cut _law_told_here _law_about

local macro_rules | `(tactic| walk_at "side") => `(tactic| first | (with_reducible assumption) | trivial | omega | decide | exact Nat.le_of_ble_eq_true rfl | exact sh_int _ | exact sh_heap _ | exact sh_rule _ | exact sh_bool _ | exact sh_lints _ | exact sh_lheaps _ | exact sh_LL _ | exact sh_lpI _ | exact sh_L1 _ | exact sh_pr _ | exact sh_pl _ | exact sh_lpl _ | exact sh_lpr _ | exact sh_S (by assumption) | exact sh_S rfl | exact ⟨by decide, by decide, by omega⟩ | exact .inl rfl | exact .inr rfl | exact .inr (noL_heap _) | exact noL_heap _ | exact noL_rule _ | exact noLs_ints _ | exact noLs_heaps _ | exact noL_pr _ | exact noL_pl _ | exact noLs_pls _ | exact noLs_prs _ | exact noLs_pI _ | exact noLs_bools _ | exact noLs_strs _ | exact ord_ok _ _ | ((with_reducible (show thawG _ _ _)); walk_at "thaw") | exact ⟨sh_lints _, sh_int _⟩ | exact ⟨sh_lheaps _, sh_heap _⟩ | assumption | decide +kernel | (simp only [List.length_map, List.length_cons, List.length_nil, List.length_append, List.length_reverse, List.length_range, List.length_replicate, List.length_dropLast, List.length_take, List.length_drop, List.length_set, List.flatten_replicate_singleton, len_srt, Int.toNat_natCast]; first | done | omega))
local macro_rules | `(tactic| walk_at "eqs") => `(tactic| first | rfl | omega | assumption | (symm; assumption) | (simp only [List.length_map]; omega))
local macro_rules | `(tactic| walk_at "eqv") => `(tactic| first | (refine eqvT_I ?_; walk_at "eqs") | (refine eqvT_H ?_; walk_at "eqs") | (refine eqvT_R ?_; walk_at "eqs") | (refine eqvT_LI ?_; walk_at "eqs") | (refine eqvT_LH ?_; walk_at "eqs") | (refine eqvT_LL ?_; walk_at "eqs") | (refine eqvT_LPI ?_; walk_at "eqs") | (refine eqvT_B ?_; walk_at "eqs") | (refine eqvT_P ?_; walk_at "eqs") | (refine eqvT_PL ?_; walk_at "eqs") | (refine eqvT_LPL ?_; walk_at "eqs") | exact eqv_str _ | (refine eqvT_S ?_; walk_at "eqs"))
local macro_rules | `(tactic| walk_at "st") => `(tactic| first
  | refine heapK_in ?_ | refine bookK_in ?_ | refine bkvK_in ?_ | refine deskK_in ?_ | refine unk_in ?_ | refine unk_inW ?_ | refine wdK_in ?_ | refine ruleK_in ?_ | refine prK_in ?_ | refine prK_in2 ?_ | refine lprK_in ?_ | refine lhK_in ?_ | refine stK_in ?_ | refine llK_in ?_ | refine besR_in ?_ | refine besK_in ?_ | refine nkK_H ?_ | refine nkK_P ?_ | refine plK_in ?_ | refine lplK_in ?_ | refine plK_in2 ?_ | refine rrK_in ?_ | refine lanK_in ?_ | refine lanK_inT ?_ | refine rwK_in ?_ | refine rwK_inT ?_ | refine heapK_nil' ?_ | refine oiK_in ?_ | refine oiK_none ?_ | refine oiK_int ?_ | refine intsK_in ?_ | refine rowsK_in ?_ | refine intsK_app ?_ | refine intsK_as rfl ?_ | refine boolsK_as rfl ?_ | refine heapK_app ?_ | refine boolsK_in ?_ | refine strsK_in ?_ | refine getK_in rfl ?_ | refine getK_hd ?_ | refine getK_1 ?_ | refine getK_2 ?_ | refine getK_hdM ?_
  | refine brT ?_ | refine brF ?_ | (refine brDT ?_ ?_; · omega) | (refine brDF ?_ ?_; · omega) | (refine brNT ?_ ?_; · omega) | (refine brNF ?_ ?_; · omega) | (refine brET ?_ ?_; · walk_at "eqv") | (refine brNET ?_ ?_; · walk_at "eqv")
  | refine brSubT rfl ?_ | refine brSubF rfl ?_ | (refine brAT ?_ ?_; · assumption) | (refine brAF ?_ ?_; · assumption) | (refine brNAT ?_ ?_; · assumption) | (refine brNAF ?_ ?_; · assumption) | refine forGo_nil ?_ | refine compGo_nil ?_ | ((fail_if_success with_reducible refine brB ?_ ?_); refine And.intro ?_ ?_; · walk_at "side"))
local macro_rules | `(tactic| walk_at "go") => `(tactic| (conv => whnf); repeat (walk_at "st"; conv => whnf))
local macro_rules | `(tactic| walk_at "br") => `(tactic| first
  | refine br ?_ ?_ | refine brN ?_ ?_ | refine brNLm ?_ ?_ | refine brNL ?_ ?_ | refine brLm ?_ ?_ | refine brL ?_ ?_ | refine brZ ?_ ?_ | refine brE (eqv_I _ _) ?_ ?_ | refine brE (eqv_H _ _) ?_ ?_ | refine brE (eqv_R _ _) ?_ ?_ | refine brE (eqv_LI _ _) ?_ ?_ | refine brE (eqv_LH _ _) ?_ ?_ | refine brE (eqv_B _ _) ?_ ?_ | refine brE (eqv_PL _ _) ?_ ?_ | refine brE (eqv_LPL _ _) ?_ ?_ | refine brE (eqv_S _ _) ?_ ?_
  | refine brNE (eqv_I _ _) ?_ ?_ | refine brNE (eqv_H _ _) ?_ ?_ | refine brNE (eqv_R _ _) ?_ ?_ | refine brNE (eqv_LI _ _) ?_ ?_ | refine brNE (eqv_LH _ _) ?_ ?_ | refine brNE (eqv_B _ _) ?_ ?_ | refine brNE (eqv_PL _ _) ?_ ?_ | refine brNE (eqv_LPL _ _) ?_ ?_ | refine brNE (eqv_S _ _) ?_ ?_ | refine brBn ?_ ?_ | refine brB ?_ ?_)
local macro_rules | `(tactic| walk_at "thaw") => `(tactic| ((conv => whnf); first | exact trivial | (refine And.intro ?_ ?_; (first | exact trivial | exact rfl | exact noLC_desk _ | exact noLC_bkv _ | exact .inl rfl | exact .inr rfl | exact .inr (noL_heap _) | exact .inr (noL_rule _) | exact noLs_ints _ | exact noLs_heaps _ | exact noL_pr _ | exact noL_pl _ | exact noLs_pls _ | exact noLs_prs _ | exact noLs_pI _ | exact noLs_bools _ | exact noLs_strs _); walk_at "thaw")))
local macro_rules | `(tactic| walk_at "oks") => `(tactic| repeat (first | exact trivial | (refine okS_map ?_; intro _) | (refine okS_mapT ?_; intro _) | exact okS_nil | exact okS_nilL | refine okS_cons ?_ ?_ | refine okS_consL ?_ ?_))
local macro_rules | `(tactic| walk_at "nv") => `(tactic| simp only [putC_succ, putC_own0, putC_lent0, List.set_cons_succ, List.set_cons_zero, wipeR_nil, wipeR_cons, backR_nil, backR_cons, keepD_none, keepD_free, keepD_d, keepD_own, keepD_lent, List.getElem?_cons_succ, List.getElem?_cons_zero, setsD_nil, setsD_cons])

/- 0:numbers 1:found 2:code 3:at 4:number -/
def b_chosen_t1 : DT := (dBl (dOp eqD (dOp modD (dOp shrD (dVar 2) (dVar 3)) (dC (.int 2))) (dC (.int 1))))
def b_chosen_e1 : DE := (dFrz (dVar 4))
def b_chosen_f1 : DS := (dExpr (dMu appF (dVar 1) (dCons (dCB tupleF (dCons (dComp (dItE (dCons (dFrz (dVar 0)) dNil)) (dgTup [(dgName 3), (dgName 4)]) b_chosen_t1 b_chosen_e1 [3, 4]) dNil)) dNil)))
def b_chosen_r1 : DS := (dRet (dVar 1))
def b_chosen : DS := (dSeq (dSet 1 (dLst dNil)) (dSeq (dFor (dItR1 (dCons (dOp shlD (dC (.int 1)) (dCB lenF (dCons (dVar 0) dNil))) dNil)) (dgName 2) b_chosen_f1) b_chosen_r1))
theorem pf_chosen : ∀ os PP PX, sp_chosen os PP PX → b_chosen (endsOf os PP PX) (rho0 5 os) := by
  intro os P PX hsp
  unfold sp_chosen at hsp
  split at hsp
  · rename_i ds
    obtain ⟨hl, q⟩ := hsp
    have hp : (2 : Int) ^ (ds.length : Int).toNat = ((2 ^ ds.length : Nat) : Int) := by rw [Int.toNat_natCast]; simp
    have hp2 : 2 ^ ds.length ≤ 2 ^ 6 := Nat.pow_le_pow_right (by decide) hl
    obtain ⟨N, hN⟩ : ∃ N, 2 ^ ds.length = N := ⟨_, rfl⟩
    unfold chosenL at q
    rw [hN] at hp hp2 q
    walk_at "go"
    rw [Int.one_mul, hp]
    walk_at "go"
    rw [Int.toNat_natCast]
    (try (walk_at "nv")); refine forGo_pre (fun i : Nat => PyData.int (i : Int)) (fun p ρ => ∃ (es : List D) (o2 : Option S), es = (p.map fun c => pickL c ds).map PyData.tuple ∧ ρ = [some (.d (.list ds)), some (.own (.lst es)), o2, none, none]) (xs := List.range N) (fun p c s ρ K e hK hi => ?_) (fun ρ hi => ?_) ⟨_, _, rfl, rfl⟩
    · obtain ⟨es, o2, rfl, rfl⟩ := hi
      obtain ⟨rfl, hc⟩ := range_split e
      have e1 := pairD_map (α := D) id 0 0 ds
      rw [List.map_id] at e1
      walk_at "go"
      rw [e1]
      (try (walk_at "nv")); refine compGo_filter (fun p : Nat × D => PyData.tuple [.int (0 + (p.1 : Int)), id p.2]) (fun p => decide ((c : Int) / 2 ^ p.1 % 2 = 1)) (fun p => p.2) (fun p hp' acc K2 h1 h2 => ?_) ?_
      · obtain ⟨i, x⟩ := p
        walk_at "go"
        rw [show (0 + (i : Int)).toNat = i from by omega]
        walk_at "br"
        · intro e3
          walk_at "go"
          exact h1 (decide_eq_true e3)
        · intro e3
          exact h2 (decide_eq_false e3)
      · rw [pickL_enum]
        walk_at "go"
        refine hK _ ⟨_, _, ?_, rfl⟩
        rw [List.map_append, List.map_append]
        simp
    · obtain ⟨es, o2, rfl, rfl⟩ := hi
      walk_at "go"
      exact q
  · exact hsp.elim

/- 0:rule -/
def b_choices_of : DS := (dRet (dCall sp_chosen (dCons (dFrz (dLRg (dCB lenF (dCons (dVar 0) dNil)))) dNil)))
theorem chosen_ints (n : Nat) : (chosenL ((List.range n).map fun i => PyData.int (i : Nat))).map PyData.tuple = (choicesL n).map hD := by
  rw [choicesL_range, show (List.range n).map (fun i => PyData.int (i : Nat)) = ((List.range n).map fun (i : Nat) => (i : Int)).map PyData.int from by rw [List.map_map]; rfl, chosenL_map, List.map_map]
  rfl
theorem pf_choices_of : ∀ os PP PX, sp_choices_of os PP PX → b_choices_of (endsOf os PP PX) (rho0 1 os) := by
  intro os P PX hsp
  unfold sp_choices_of at hsp
  split at hsp
  · obtain ⟨r, rfl, hl, q⟩ := ruleK_of hsp
    walk_at "go"
    rw [List.length_map, Int.toNat_natCast, chosen_ints]
    exact q
  · exact hsp.elim

/- 0:heaps 1:seen 2:heap 3:part -/
def b_unlike_parts_f1 : DS := (dDPut (dC (.bool true)) (dVar 1) (dVar 3))
def b_unlike_parts_f2 : DS := (dFor (dIt (dFrz (dVar 2))) (dgName 3) b_unlike_parts_f1)
def b_unlike_parts_r1 : DS := (dRet (dRev (dCB sortF (dCons (dDList (dVar 1)) dNil))))
def b_unlike_parts : DS := (dSeq (dSet 1 dDNew) (dSeq (dFor (dIt (dFrz (dVar 0))) (dgName 2) b_unlike_parts_f2) b_unlike_parts_r1))
theorem putD_seen (s : List Int) (x : Int) : putD (s.map fun z => ((.inl z : Key), PyData.bool true)) (.inl x) (.bool true) = (addNew s x).map fun z => ((.inl z : Key), PyData.bool true) := by
  have ha : ((s.map fun z => ((.inl z : Key), PyData.bool true)).any fun kv => decide (kv.1 = .inl x)) = decide (x ∈ s) := by
    rw [List.any_map, Bool.eq_iff_iff]
    simp [List.any_eq_true]
  unfold putD addNew
  rw [ha]
  by_cases h : x ∈ s
  · simp only [h, decide_true, if_true]
    rw [List.map_map]
    apply List.map_congr_left
    intro z _
    show (if (Sum.inl z : Key) = Sum.inl x then _ else _) = _
    split <;> rfl
  · simp [h]
theorem unlike_main {r : List Heap1} {E : DEnds} {d : D} (o : okJ r) {o2 o3 : Option S} (q : ∀ o2 o3 : Option S, E.nx [some (.d d), some (.own (.dic ((seenL r.flatten).map fun z => ((.inl z : Key), PyData.bool true)))), o2, o3]) :
    forGo (dgName 2) b_unlike_parts_f2 E (r.map hD) [some (.d d), some (.own (.dic [])), o2, o3] := by
  have hf := o.flat
  (try (walk_at "nv")); refine forGo_pre hD (fun p ρ => ∃ (kvs : List (Key × D)) (o2 o3 : Option S), kvs = (seenL p.flatten).map (fun z => ((.inl z : Key), PyData.bool true)) ∧ ρ = [some (.d d), some (.own (.dic kvs)), o2, o3]) (fun p h s ρ K e hK hi => ?_) (fun ρ hi => ?_) ⟨_, _, _, rfl, rfl⟩
  · obtain ⟨kvs, o2, o3, rfl, rfl⟩ := hi
    have hl : p.flatten.length + h.length ≤ 1000000 := by
      rw [e] at hf
      simp at hf
      simp
      omega
    walk_at "go"
    (try (walk_at "nv")); refine forGo_pre PyData.int (fun p2 ρ => ∃ (kvs : List (Key × D)) (o3 : Option S), kvs = (seenL (p.flatten ++ p2)).map (fun z => ((.inl z : Key), PyData.bool true)) ∧ ρ = [some (.d d), some (.own (.dic kvs)), some (.d (hD h)), o3]) (fun p2 x s2 ρ K2 e2 hK2 hi2 => ?_) (fun ρ hi2 => ?_) ⟨_, _, by rw [List.append_nil], rfl⟩
    · obtain ⟨kvs, o3, rfl, rfl⟩ := hi2
      have h2 := seenL_len (p.flatten ++ p2)
      have h3 : p2.length ≤ h.length := by rw [e2]; simp
      rw [List.length_append] at h2
      walk_at "go"
      rw [putD_seen, ← seenL_snoc, List.append_assoc]
      exact hK2 _ ⟨_, _, rfl, rfl⟩
    · obtain ⟨kvs, o3, rfl, rfl⟩ := hi2
      refine hK _ ⟨_, _, _, ?_, rfl⟩
      simp
  · obtain ⟨kvs, o2, o3, rfl, rfl⟩ := hi
    exact q _ _
theorem unlike_end {r : List Heap1} {P : O → List S → Prop} {d : D} {PX : Exn → List S → Prop} (q : P (.tmp (.lst ((partsL r).map PyData.int))) [.d d]) (o2 o3 : Option S) :
    b_unlike_parts_r1 (endsOf [.d d] P PX) [some (.d d), some (.own (.dic ((seenL r.flatten).map fun z => ((.inl z : Key), PyData.bool true)))), o2, o3] := by
  have e : ((seenL r.flatten).map fun z => ((.inl z : Key), PyData.bool true)).map (fun u => keyD u.1) = (seenL r.flatten).map PyData.int := by
    rw [List.map_map]; rfl
  walk_at "go"
  rw [e]
  walk_at "go"
  rw [← List.map_reverse]
  exact q
theorem pf_unlike_parts : ∀ os PP PX, sp_unlike_parts os PP PX → b_unlike_parts (endsOf os PP PX) (rho0 4 os) := by
  intro os P PX hsp
  unfold sp_unlike_parts at hsp
  split at hsp
  · obtain ⟨r, e, o, q⟩ := lhK_of hsp
    cases e
    walk_at "go"
    exact unlike_main o fun o2 o3 => unlike_end q o2 o3
  · obtain ⟨r, e, o, q⟩ := ruleK_of hsp
    cases e
    walk_at "go"
    exact unlike_main o fun o2 o3 => unlike_end q o2 o3
  · exact hsp.elim

/- 0:heaps 1:found 2:part 3:heap -/
def b_joined_e1 : DE := (dFrz (dCnt (dVar 3) (dCons (dVar 2) dNil)))
def b_joined_f1 : DS := (dExpr (dMu extF (dVar 1) (dCons (dFrz (dOp mulD (dLst (dCons (dFrz (dVar 2)) dNil)) (dCB maxF (dCons (dComp (dIt (dFrz (dVar 0))) (dgName 3) dYes b_joined_e1 [3]) dNil)))) dNil)))
def b_joined_r1 : DS := (dRet (dCB tupleF (dCons (dVar 1) dNil)))
def b_joined : DS := (dSeq (dSet 1 (dLst dNil)) (dSeq (dFor (dIt (dCall sp_unlike_parts (dCons (dFrz (dVar 0)) dNil))) (dgName 2) b_joined_f1) b_joined_r1))
theorem rep_ints (n : Nat) (x : Int) : (List.replicate n [PyData.int x]).flatten = (List.replicate n x).map PyData.int := by
  rw [List.flatten_replicate_singleton, List.map_replicate]
theorem joined_main {r : List Heap1} {P : O → List S → Prop} {PX : Exn → List S → Prop} {d : D} (o : okJ r) (hd : (∃ e, d = .list e ∧ e = r.map hD) ∨ (∃ e, d = .tuple e ∧ e = r.map hD)) (q : P (.d (hD (joinL r))) [.d d]) (o2 o3 : Option S) :
    forGo (dgName 2) b_joined_f1 { nx := fun ρ => b_joined_r1 (endsOf [.d d] P PX) ρ, rt := (endsOf [.d d] P PX).rt, bk := (endsOf [.d d] P PX).bk, ct := (endsOf [.d d] P PX).ct, ex := (endsOf [.d d] P PX).ex } ((partsL r).map PyData.int) [some (.d d), some (.own (.lst [])), o2, none] := by
  have hf := o.flat
  have hn := partsL_nodup r
  have hj := joinL_len r
  (try (walk_at "nv")); refine forGo_pre PyData.int (fun p ρ => ∃ (ds : List D) (o2 : Option S), ds = (repL (mxC r) p).map PyData.int ∧ ρ = [some (.d d), some (.own (.lst ds)), o2, none]) (fun p x s ρ K e hK hi => ?_) (fun ρ hi => ?_) ⟨_, _, rfl, rfl⟩
  · obtain ⟨ds, o2, rfl, rfl⟩ := hi
    have hx : x ∈ partsL r := by rw [e]; simp
    have hr : r ≠ [] := by
      obtain ⟨g, hg, _⟩ := partsL_mem.mp hx
      exact List.ne_nil_of_mem hg
    have hm : (r.map fun h => ((h.count x : Nat) : Int)) ≠ [] := fun z => hr (List.map_eq_nil_iff.mp z)
    have hl : (repL (mxC r) p).length + mxC r x ≤ 1000000 := by
      unfold joinL at hj
      rw [e, show p ++ x :: s = (p ++ [x]) ++ s from by simp] at hj
      unfold repL at hj ⊢
      rw [List.flatMap_append, List.length_append, List.flatMap_append, List.length_append] at hj
      simp only [List.flatMap_cons, List.flatMap_nil, List.append_nil, List.length_replicate] at hj
      omega
    rcases hd with ⟨_, rfl, rfl⟩ | ⟨_, rfl, rfl⟩
    · walk_at "go"
      (try (walk_at "nv")); refine compGo_mapI hD (fun h => ((h.count x : Nat) : Int)) (fun h hh acc K2 hK2 => ?_) ?_
      · walk_at "go"
        exact hK2
      · walk_at "go"
        rw [mxC_mxL hr x, Int.toNat_natCast]
        refine And.intro (by omega) (And.intro (by omega) (And.intro (by simp; omega) ?_))
        rw [rep_ints]
        walk_at "go"
        refine hK _ ⟨_, _, ?_, rfl⟩
        rw [repL_snoc, List.map_append]
    · walk_at "go"
      (try (walk_at "nv")); refine compGo_mapI hD (fun h => ((h.count x : Nat) : Int)) (fun h hh acc K2 hK2 => ?_) ?_
      · walk_at "go"
        exact hK2
      · walk_at "go"
        rw [mxC_mxL hr x, Int.toNat_natCast]
        refine And.intro (by omega) (And.intro (by omega) (And.intro (by simp; omega) ?_))
        rw [rep_ints]
        walk_at "go"
        refine hK _ ⟨_, _, ?_, rfl⟩
        rw [repL_snoc, List.map_append]
  · obtain ⟨ds, o2, rfl, rfl⟩ := hi
    walk_at "go"
    exact q
theorem pf_joined : ∀ os PP PX, sp_joined os PP PX → b_joined (endsOf os PP PX) (rho0 4 os) := by
  intro os P PX hsp
  unfold sp_joined at hsp
  split at hsp
  · obtain ⟨r, e, o, q⟩ := lhK_of hsp
    cases e
    walk_at "go"
    exact joined_main o (.inl ⟨_, rfl, rfl⟩) q _ none
  · obtain ⟨r, e, o, q⟩ := ruleK_of hsp
    cases e
    walk_at "go"
    exact joined_main o (.inr ⟨_, rfl, rfl⟩) q _ none
  · exact hsp.elim

/- 0:rule 1:choice 2:number -/
def b_joined_of_e1 : DE := (dFrz (dOp ixD (dVar 0) (dVar 2)))
def b_joined_of : DS := (dRet (dCall sp_joined (dCons (dFrz (dComp (dIt (dFrz (dVar 1))) (dgName 2) dYes b_joined_of_e1 [2])) dNil)))
theorem pf_joined_of : ∀ os PP PX, sp_joined_of os PP PX → b_joined_of (endsOf os PP PX) (rho0 3 os) := by
  intro os P PX hsp
  unfold sp_joined_of at hsp
  split at hsp
  · obtain ⟨r, rfl, g0⟩ := ruleK_of hsp
    obtain ⟨c, rfl, o, hc, hj, q⟩ := heapK_of g0
    have o2 := o.pick hj hc
    walk_at "go"
    (try (walk_at "nv")); refine compGo_mapH PyData.int (fun j => r.getD j.toNat []) (fun x hx acc K2 hK2 => ?_) ?_
    · have := hj x hx
      walk_at "go"
      refine getK_rule this.1 this.2 ?_
      walk_at "go"
      exact hK2
    · walk_at "go"
      exact q
  · exact hsp.elim

/- 0:heap -/
def b_sum_of : DS := (dRet (dCB sumF (dCons (dCB listF (dCons (dVar 0) dNil)) dNil)))
theorem pf_sum_of : ∀ os PP PX, sp_sum_of os PP PX → b_sum_of (endsOf os PP PX) (rho0 1 os) := by
  intro os P PX h
  unfold sp_sum_of at h
  split at h
  · obtain ⟨ns, rfl, q⟩ := heapK_of h
    walk_at "go"
    exact q
  · exact h.elim

/- 0:rule 1:choice -/
def b_sums_of_e1 : DE := (dTup (dCons (dFrz (dVar 1)) (dCons (dFrz (dCall sp_sum_of (dCons (dFrz (dCall sp_joined_of (dCons (dFrz (dVar 0)) (dCons (dFrz (dVar 1)) dNil)))) dNil))) dNil)))
def b_sums_of : DS := (dRet (dComp (dIt (dCall sp_choices_of (dCons (dFrz (dVar 0)) dNil))) (dgName 1) dYes b_sums_of_e1 [1]))
theorem pf_sums_of : ∀ os PP PX, sp_sums_of os PP PX → b_sums_of (endsOf os PP PX) (rho0 2 os) := by
  intro os P PX hsp
  unfold sp_sums_of at hsp
  split at hsp
  · obtain ⟨r, rfl, hl, o, q⟩ := ruleK_of hsp
    walk_at "go"
    (try (walk_at "nv")); refine compGo_map hD (fun c => hiD (c, (joinL (pickC r c)).sum)) (fun x hx acc K2 hK2 => ?_) ?_
    · have h1 := choicesL_small hx
      have h2 := choicesL_mem hx
      walk_at "go"
      exact hK2
    · unfold sumsL at q
      rw [List.map_map] at q
      exact q
  · exact hsp.elim

/- 0:one 1:other 2:choice 3:mine 4:same 5:theirs -/
def b_first_unlike_f1 : DS := (dIf (dBl (dOp neD (dVar 3) (dVar 5))) (dRet (dTup (dCons (dFrz (dVar 2)) (dCons (dFrz (dVar 3)) (dCons (dFrz (dVar 5)) dNil))))) dNext)
def b_first_unlike_r1 : DS := (dRet (dC .none))
def b_first_unlike_r2 : DS := (dSeq (dFor (dItZ (dCons (dFrz (dCall sp_sums_of (dCons (dFrz (dVar 0)) dNil))) (dCons (dFrz (dCall sp_sums_of (dCons (dFrz (dVar 1)) dNil))) dNil))) (dgTup [(dgTup [(dgName 2), (dgName 3)]), (dgTup [(dgName 4), (dgName 5)])]) b_first_unlike_f1) (stp b_first_unlike_r1))
def b_first_unlike : DS := (dSeq (dIf (dBl (dOp neD (dCB lenF (dCons (dVar 0) dNil)) (dCB lenF (dCons (dVar 1) dNil)))) (dRaise 9) dNext) b_first_unlike_r2)
theorem sums_zip {r s : List Heap1} (h : r.length = s.length) : (sumsL r).zip (sumsL s) = (choicesL r.length).map fun c => ((c, jS r c), (c, jS s c)) := by
  unfold sumsL jS
  rw [← h, List.zip_map']
theorem find_some_pre {α β : Type} {f : α → Option β} {p s : List α} {x : α} {y : β} (hp : ∀ z ∈ p, f z = none) (h : f x = some y) : (p ++ x :: s).findSome? f = some y := by
  rw [List.findSome?_append, List.findSome?_eq_none_iff.mpr hp, List.findSome?_cons, h]
  rfl
theorem pf_first_unlike : ∀ os PP PX, sp_first_unlike os PP PX → b_first_unlike (endsOf os PP PX) (rho0 6 os) := by
  intro os P PX hsp
  unfold sp_first_unlike at hsp
  split at hsp
  · obtain ⟨r, rfl, g0⟩ := ruleK_of hsp
    obtain ⟨s, rfl, o1, o2, q1, q2⟩ := ruleK_of g0
    have hl1 : (r.map hD).length = r.length := List.length_map ..
    have hl2 : (s.map hD).length = s.length := List.length_map ..
    walk_at "go"
    rw [hl1, hl2]
    walk_at "br"
    · intro e
      have q := q2 (decide_eq_false (by omega))
      walk_at "go"
      exact q
    · intro e
      have e : r.length = s.length := by omega
      obtain ⟨h6, q⟩ := q1 (decide_eq_true e)
      have hl := choicesL_len r.length
      walk_at "go"
      rw [zipD_map, sums_zip e, List.map_map]
      (try (walk_at "nv")); refine forGo_pre (fun c : Heap1 => PyData.tuple [hiD (c, jS r c), hiD (c, jS s c)]) (fun p ρ => ∃ o2 o3 o4 o5 : Option S, ρ = [some (.d (rD r)), some (.d (rD s)), o2, o3, o4, o5] ∧ ∀ c ∈ p, (if jS r c = jS s c then none else some (c, jS r c, jS s c)) = none) (fun p c t ρ K ec hK hi => ?_) (fun ρ hi => ?_) ⟨_, _, _, _, rfl, by simp⟩
      · obtain ⟨o2, o3, o4, o5, rfl, hi⟩ := hi
        walk_at "go"
        walk_at "br"
        · intro hne
          have hf : unlO r s = some (c, jS r c, jS s c) := by
            unfold unlO
            rw [ec]
            exact find_some_pre hi (if_neg hne)
          rw [hf] at q
          walk_at "go"
          exact q
        · intro heq
          walk_at "go"
          refine hK _ ⟨_, _, _, _, rfl, fun c' hc' => ?_⟩
          rcases List.mem_append.mp hc' with hc' | hc'
          · exact hi c' hc'
          · rw [List.mem_singleton.mp hc']; exact if_pos heq
      · obtain ⟨o2, o3, o4, o5, rfl, hi⟩ := hi
        have hf : unlO r s = none := List.findSome?_eq_none_iff.mpr hi
        rw [hf] at q
        refine stp_in ?_
        walk_at "go"
        exact q
  · exact hsp.elim

def bf_Beside : DE := (dCall sp_first_unlike (dCons (dFrz (dVar 1)) (dCons (dFrz (dVar 2)) dNil)))
def bt_Beside : DT := (dBl (dOp isNotD (dVar 3) (dC .none)))
def bb_Beside : DS := (dRaiseF 19 ["choice", "one", "other"] (dCons (dFrz (dOp ixD (dVar 3) (dC (.int 0)))) (dCons (dFrz (dOp ixD (dVar 3) (dC (.int 1)))) (dCons (dFrz (dOp ixD (dVar 3) (dC (.int 2)))) dNil))))
theorem pf_Beside : ∀ l r PP PX, sp_Beside [.d l, .d r] PP PX → iniP bf_Beside bt_Beside bb_Beside l r PP PX := by
  intro d e P PX hsp
  obtain ⟨r, rfl, g0⟩ := ruleK_of hsp
  obtain ⟨s, rfl, k1, k2, q1, q2⟩ := ruleK_of g0
  unfold iniP
  walk_at "go"
  refine And.intro (fun e => ?_) (fun e => ?_)
  · obtain ⟨h6, q3, q4⟩ := q1 e
    cases h : unlO r s with
    | none =>
      have q := q3 (by rw [h]; rfl)
      walk_at "go"
      exact q
    | some t =>
      obtain ⟨c, x, y⟩ := t
      have q := q4 (by rw [h]; rfl) c x y h
      walk_at "go"
      exact q
  · have q := q2 e
    walk_at "go"
    exact q

theorem two_Beside : ∀ os PP PX, sp_Beside os PP PX → ∃ l r, os = [S.d l, S.d r] := by
  intro os PP PX h
  unfold sp_Beside at h
  first | exact h.elim | (split at h <;> first | exact ⟨_, _, rfl⟩ | exact h.elim)
/- 0:self -/
def b_Beside_back : DS := (dRet (dMake sp_Beside (dCons (dFrz (dFldR (dVar 0))) (dCons (dFrz (dFldL (dVar 0))) dNil))))
theorem pf_Beside_back : ∀ os PP PX, sp_Beside_back os PP PX → b_Beside_back (endsOf os PP PX) (rho0 1 os) := by
  intro os P PX hsp
  unfold sp_Beside_back at hsp
  split at hsp
  · obtain ⟨l, r, rfl, g0⟩ := besK_of hsp
    obtain ⟨a, rfl, g1⟩ := ruleK_of g0
    obtain ⟨b, rfl, k1, k2, e, h6, hu, q⟩ := ruleK_of g1
    have h6' : b.length ≤ 6 := by omega
    have hd : decide (unlO b a = none) = true := decide_eq_true hu
    walk_at "go"
    exact q
  · exact hsp.elim

/- 0:_law_one 1:_law_other 2:_law_part -/
def b__law_lies_e1 : DE := (dOp leD (dCnt (dVar 0) (dCons (dVar 2) dNil)) (dCnt (dVar 1) (dCons (dVar 2) dNil)))
def b__law_lies : DS := (dRet (dCB allF (dCons (dComp (dIt (dFrz (dVar 0))) (dgName 2) dYes b__law_lies_e1 [2]) dNil)))
theorem pf__law_lies : ∀ os PP PX, sp__law_lies os PP PX → b__law_lies (endsOf os PP PX) (rho0 3 os) := by
  intro os P PX h
  unfold sp__law_lies at h
  split at h
  · obtain ⟨ns, rfl, q0⟩ := heapK_of h
    obtain ⟨ms, rfl, q⟩ := heapK_of q0
    walk_at "go"
    (try (walk_at "nv")); refine compGo_mapB PyData.int (fun x => decide (((ns.count x : Nat) : Int) ≤ ((ms.count x : Nat) : Int))) (fun x hx acc K hK => ?_) ?_
    · walk_at "go"
      exact hK
    · walk_at "go"
      have e : (List.map (fun x => decide (((ns.count x : Nat) : Int) ≤ ((ms.count x : Nat) : Int))) ns).all id = liesIn ns ms := by unfold liesIn; rw [List.all_map]; rfl
      rw [e]
      exact q
  · exact h.elim

/- 0:_law_rule_here 1:_law_heap_here 2:_law_number -/
def b__law_first_f1 : DS := (dIf (dTru (dCall sp__law_lies (dCons (dFrz (dOp ixD (dVar 0) (dVar 2))) (dCons (dFrz (dVar 1)) dNil)))) (dRet (dVar 2)) dNext)
def b__law_first_r1 : DS := (dRet (dC .none))
def b__law_first : DS := (dSeq (dFor (dItR1 (dCons (dCB lenF (dCons (dVar 0) dNil)) dNil)) (dgName 2) b__law_first_f1) b__law_first_r1)
theorem pf__law_first : ∀ os PP PX, sp__law_first os PP PX → b__law_first (endsOf os PP PX) (rho0 3 os) := by
  intro os P PX hsp
  unfold sp__law_first at hsp
  split at hsp
  · obtain ⟨r, rfl, g0⟩ := ruleK_of hsp
    obtain ⟨h, rfl, hl, q⟩ := heapK_of g0
    walk_at "go"
    (try (walk_at "nv")); refine forGo_pre (fun i : Nat => PyData.int (i : Int)) (fun p ρ => ∃ o2 : Option S, ρ = [some (.d (rD r)), some (.d (hD h)), o2] ∧ ∀ j (hj : j < r.length), j ∈ p → liesIn r[j] h = false) (xs := List.range (((r.map hD).length : Nat) : Int).toNat) (fun p x s ρ K e hK hi => ?_) (fun ρ hi => ?_) ⟨_, rfl, by simp⟩
    · obtain ⟨o2, rfl, hi⟩ := hi
      obtain ⟨hp, hx⟩ := range_split e
      rw [Int.toNat_natCast, List.length_map] at hx
      subst hp
      walk_at "go"
      refine getK_nat x rfl hx ?_
      walk_at "go"
      walk_at "br"
      · intro hy
        have hf : firstN r h = some x := List.findIdx?_eq_some_iff_getElem.mpr ⟨hx, hy, fun j hj => by rw [hi j (by omega) (List.mem_range.mpr hj)]; simp⟩
        rw [hf] at q
        walk_at "go"
        exact q
      · intro hy
        walk_at "go"
        refine hK _ ⟨_, rfl, fun j hj hm => ?_⟩
        rcases List.mem_append.mp hm with hm | hm
        · exact hi j hj hm
        · cases List.mem_singleton.mp hm
          exact hy
    · obtain ⟨o2, rfl, hi⟩ := hi
      have hf : firstN r h = none := List.findIdx?_eq_none_iff.mpr fun x hx => by
        obtain ⟨j, hj, rfl⟩ := List.getElem_of_mem hx
        exact hi j hj (List.mem_range.mpr (by rw [Int.toNat_natCast, List.length_map]; exact hj))
      rw [hf] at q
      walk_at "go"
      exact q
  · exact hsp.elim

/- 0:_law_state 1:_law_size 2:_law_top 3:_law_parts 4:_law_k -/
def b__law_heap_e1 : DE := (dFrz (dOp addD (dC (.int 1)) (dCallM sp__law_draw (dCons (dVar 0) (dCons (dFrz (dVar 2)) dNil)))))
def b__law_heap : DS := (dSeq (dSet 3 (dComp (dItR1 (dCons (dCallM sp__law_draw (dCons (dVar 0) (dCons (dFrz (dOp addD (dVar 1) (dC (.int 1)))) dNil))) dNil)) (dgName 4) dYes b__law_heap_e1 [4])) (dRet (dCB tupleF (dCons (dCB sortRF (dCons (dVar 3) dNil)) dNil))))
theorem pf__law_heap : ∀ os PP PX, sp__law_heap os PP PX → b__law_heap (endsOf os PP PX) (rho0 5 os) := by
  intro os P PX h
  unfold sp__law_heap at h
  split at h
  · rename_i a b n t
    obtain ⟨hb, n0, n1, t0, t1, q⟩ := h
    walk_at "go"
    intro k k0 k1
    walk_at "go"
    (try (walk_at "nv")); refine compGo_draw _ 8 (fun _ d => ∃ i, d = .int i ∧ (1 ≤ i ∧ i ≤ t)) (fun b => [some (.lent a (.st b)), some (.d (.int n)), some (.d (.int t)), none, none]) (fun x hx acc b1 K h1 h2 hK => ?_) (fun ds b2 hp h1 h2 => ?_)
    · rw [List.length_range] at h2
      walk_at "go"
      intro j j0 j1
      exact hK _ _ ⟨_, rfl, by omega, by omega⟩ (by omega) (by omega)
    · obtain ⟨ns, rfl, hl, hn⟩ := paired_ints (fun _ _ h => h) hp
      rw [List.length_range] at h2 hl
      walk_at "go"
      exact q _ _ (isHeap_srtR hn) (by rw [len_srtR]; omega) (fun x hx => (hn x (mem_srtR.mp hx)).2) (by omega) (by omega)
  · exact h.elim

/- 0:_law_one 1:_law_other 2:_law_sided -/
def b__law_held_x1 : DS := (dSet 2 (dC .none))
def b__law_held_r1 : DS := (dRet (dVar 2))
def b__law_held : DS := (dSeq (dSet 2 (dC .none)) (dSeq (dTry [0, 2, 7, 8, 9, 17, 18, 19, 20] (dSet 2 (dMake sp_Beside (dCons (dFrz (dVar 0)) (dCons (dFrz (dVar 1)) dNil)))) [(19, none, b__law_held_x1)] dNext) b__law_held_r1))
theorem pf__law_held : ∀ os PP PX, sp__law_held os PP PX → b__law_held (endsOf os PP PX) (rho0 3 os) := by
  intro os P PX hsp
  unfold sp__law_held at hsp
  split at hsp
  · obtain ⟨r, rfl, g0⟩ := ruleK_of hsp
    obtain ⟨s, rfl, k1, k2, e, h6, q⟩ := ruleK_of g0
    cases h : unlO r s with
    | none =>
      rw [h] at q
      have hd : decide (unlO r s = none) = true := decide_eq_true h
      walk_at "go"
      exact q
    | some t =>
      obtain ⟨c, x, y⟩ := t
      rw [h] at q
      have hd : decide (unlO r s = none) = false := decide_eq_false (by rw [h]; simp)
      walk_at "go"
      intro c' x' y' h'
      rw [h] at h'
      cases h'
      walk_at "go"
      exact q
  · exact hsp.elim

/- 0:_law_many 1:_law_found 2:_law_number 3:_law_choice -/
def b__law_choices_e1 : DE := (dFrz (dOp addD (dVar 3) (dTup (dCons (dFrz (dVar 2)) dNil))))
def b__law_choices_f1 : DS := (dSet 1 (dOp addD (dVar 1) (dComp (dIt (dFrz (dVar 1))) (dgName 3) dYes b__law_choices_e1 [3])))
def b__law_choices_r1 : DS := (dRet (dVar 1))
def b__law_choices : DS := (dSeq (dSet 1 (dLst (dCons (dTup dNil) dNil))) (dSeq (dFor (dItR1 (dCons (dVar 0) dNil)) (dgName 2) b__law_choices_f1) b__law_choices_r1))
theorem pf__law_choices : ∀ os PP PX, sp__law_choices os PP PX → b__law_choices (endsOf os PP PX) (rho0 4 os) := by
  intro os P PX hsp
  unfold sp__law_choices at hsp
  split at hsp
  · rename_i m
    obtain ⟨h0, h1, q⟩ := hsp
    walk_at "go"
    (try (walk_at "nv")); refine forGo_pre (fun i : Nat => PyData.int (i : Int)) (fun p ρ => ∃ (es : List D) (o2 : Option S), es = (choicesL p.length).map hD ∧ ρ = [some (.d (.int m)), some (.own (.lst es)), o2, none]) (xs := List.range m.toNat) (fun p c s ρ K e hK hi => ?_) (fun ρ hi => ?_) ⟨_, _, rfl, rfl⟩
    · obtain ⟨es, o2, rfl, rfl⟩ := hi
      obtain ⟨rfl, hc⟩ := range_split e
      rw [List.length_range]
      have hl := choicesL_len c
      have hp2 : 2 ^ c ≤ 2 ^ 6 := Nat.pow_le_pow_right (by decide) (by omega)
      walk_at "go"
      (try (walk_at "nv")); refine compGo_mapH hD (fun x => x ++ [(c : Int)]) (fun x hx acc K2 hK2 => ?_) ?_
      · have := choicesL_small hx
        walk_at "go"
        rw [show List.map PyData.int x ++ [PyData.int ↑c] = (x ++ [(c : Int)]).map PyData.int from by simp]
        exact hK2
      · walk_at "go"
        refine hK _ ⟨_, _, ?_, rfl⟩
        rw [List.length_append, List.length_range, List.length_singleton, choicesL, List.map_append]
    · obtain ⟨es, o2, rfl, rfl⟩ := hi
      rw [List.length_range]
      walk_at "go"
      exact q
  · exact hsp.elim

/- 0:_law_heaps 1:_law_found 2:_law_heap_here 3:_law_part -/
def b__law_joined_f1 : DS := (dIf (dBl (dOp ltD (dCnt (dVar 1) (dCons (dVar 3) dNil)) (dCnt (dVar 2) (dCons (dVar 3) dNil)))) (dExpr (dMu appF (dVar 1) (dCons (dFrz (dVar 3)) dNil))) dNext)
def b__law_joined_f2 : DS := (dFor (dIt (dFrz (dVar 2))) (dgName 3) b__law_joined_f1)
def b__law_joined_r1 : DS := (dRet (dCB tupleF (dCons (dCB sortRF (dCons (dVar 1) dNil)) dNil)))
def b__law_joined : DS := (dSeq (dSet 1 (dLst dNil)) (dSeq (dFor (dIt (dFrz (dVar 0))) (dgName 2) b__law_joined_f2) b__law_joined_r1))
theorem lj_inner {d : D} {E : DEnds} {h : Heap1} {W : List Int} (hW : W.length + h.length ≤ 2000000) (q : ∀ (ys : List Int) (o3 : Option S), ys.length ≤ W.length + h.length → (∀ x, ys.count x = max (W.count x) (h.count x)) → E.nx [some (.d d), some (.own (.lst (ys.map PyData.int))), some (.d (hD h)), o3]) (o3 : Option S) :
    forGo (dgName 3) b__law_joined_f1 E (h.map PyData.int) [some (.d d), some (.own (.lst (W.map PyData.int))), some (.d (hD h)), o3] := by
  (try (walk_at "nv")); refine forGo_pre PyData.int (fun p ρ => ∃ (ys : List Int) (o3 : Option S), ys.length ≤ W.length + p.length ∧ (∀ x, W.count x ≤ ys.count x ∧ ys.count x ≤ max (W.count x) (h.count x) ∧ min (h.count x) (W.count x + p.count x) ≤ ys.count x) ∧ ρ = [some (.d d), some (.own (.lst (ys.map PyData.int))), some (.d (hD h)), o3]) (fun p x s ρ K e hK hi => ?_) (fun ρ hi => ?_) ⟨W, _, by simp, fun x => by simp; omega, rfl⟩
  · obtain ⟨ys, o3, hl, hy, rfl⟩ := hi
    have hp : p.length + 1 ≤ h.length := by rw [e]; simp
    walk_at "go"
    walk_at "br"
    · intro e2
      walk_at "go"
      rw [show ys.map PyData.int ++ [PyData.int x] = (ys ++ [x]).map PyData.int from by simp]
      refine hK _ ⟨_, _, by simp; omega, fun z => ?_, rfl⟩
      have := hy z
      rw [List.count_append, List.count_append]
      by_cases ez : x = z
      · subst ez
        simp
        omega
      · simp [ez]
        omega
    · intro e2
      walk_at "go"
      refine hK _ ⟨_, _, by simp; omega, fun z => ?_, rfl⟩
      have := hy z
      rw [List.count_append]
      by_cases ez : x = z
      · subst ez
        simp
        omega
      · simp [ez]
        omega
  · obtain ⟨ys, o3, hl, hy, rfl⟩ := hi
    refine q ys o3 hl fun x => ?_
    have := hy x
    omega
theorem lj_main {r : List Heap1} {P : O → List S → Prop} {PX : Exn → List S → Prop} {d : D} (o : okJ r) (q : P (.d (hD (joinL r))) [.d d]) (o2 o3 : Option S) :
    forGo (dgName 2) b__law_joined_f2 { nx := fun ρ => b__law_joined_r1 (endsOf [.d d] P PX) ρ, rt := (endsOf [.d d] P PX).rt, bk := (endsOf [.d d] P PX).bk, ct := (endsOf [.d d] P PX).ct, ex := (endsOf [.d d] P PX).ex } (r.map hD) [some (.d d), some (.own (.lst [])), o2, o3] := by
  (try (walk_at "nv")); refine forGo_pre hD (fun p ρ => ∃ (ys : List Int) (o2 o3 : Option S), ys.length ≤ 1000 * p.length ∧ (∀ x, ys.count x = mxC p x) ∧ ρ = [some (.d d), some (.own (.lst (ys.map PyData.int))), o2, o3]) (fun p h s ρ K e hK hi => ?_) (fun ρ hi => ?_) ⟨[], _, _, by simp, fun x => rfl, rfl⟩
  · obtain ⟨ys, o2, o3, hl, hy, rfl⟩ := hi
    have h1 := o.2 h (by rw [e]; simp)
    have h2 : p.length + 1 ≤ r.length := by rw [e]; simp
    have h3 := o.1
    walk_at "go"
    refine lj_inner (W := ys) (by omega) (fun zs o3 q1 q2 => hK _ ⟨zs, _, _, ?_, fun x => ?_, rfl⟩) _
    · rw [List.length_append, List.length_singleton]; omega
    · rw [q2, hy, mxC_snoc]
  · obtain ⟨ys, o2, o3, hl, hy, rfl⟩ := hi
    walk_at "go"
    rw [joinL_srtR hy]
    exact q
theorem pf__law_joined : ∀ os PP PX, sp__law_joined os PP PX → b__law_joined (endsOf os PP PX) (rho0 4 os) := by
  intro os P PX hsp
  unfold sp__law_joined at hsp
  split at hsp
  · obtain ⟨r, e, o, q⟩ := lhK_of hsp
    cases e
    walk_at "go"
    exact lj_main o q none none
  · obtain ⟨r, e, o, q⟩ := ruleK_of hsp
    cases e
    walk_at "go"
    exact lj_main o q none none
  · exact hsp.elim

/- 0:_law_one 1:_law_other 2:_law_choice 3:_law_mine 4:_law_number -/
def b__law_match_e1 : DE := (dFrz (dOp ixD (dVar 0) (dVar 4)))
def b__law_match_e2 : DE := (dFrz (dOp ixD (dVar 1) (dVar 4)))
def b__law_match_f1 : DS := (dSeq (dSet 3 (dCB sumF (dCons (dCall sp__law_joined (dCons (dFrz (dComp (dIt (dFrz (dVar 2))) (dgName 4) dYes b__law_match_e1 [4])) dNil)) dNil))) (dIf (dBl (dOp neD (dVar 3) (dCB sumF (dCons (dCall sp__law_joined (dCons (dFrz (dComp (dIt (dFrz (dVar 2))) (dgName 4) dYes b__law_match_e2 [4])) dNil)) dNil)))) (dRet (dC (.bool false))) dNext))
def b__law_match_r1 : DS := (dRet (dC (.bool true)))
def b__law_match : DS := (dSeq (dFor (dIt (dCall sp__law_choices (dCons (dCB lenF (dCons (dVar 0) dNil)) dNil))) (dgName 2) b__law_match_f1) (stp b__law_match_r1))
theorem pf__law_match : ∀ os PP PX, sp__law_match os PP PX → b__law_match (endsOf os PP PX) (rho0 5 os) := by
  intro os P PX hsp
  unfold sp__law_match at hsp
  split at hsp
  · obtain ⟨r, rfl, g0⟩ := ruleK_of hsp
    obtain ⟨s, rfl, k1, k2, e, h6, q⟩ := ruleK_of g0
    have hl1 : (r.map hD).length = r.length := List.length_map ..
    have hl := choicesL_len r.length
    walk_at "go"
    rw [hl1]
    walk_at "go"
    rw [Int.toNat_natCast]
    (try (walk_at "nv")); refine forGo_pre hD (fun p ρ => ∃ o2 o3 : Option S, ρ = [some (.d (rD r)), some (.d (rD s)), o2, o3, none] ∧ ∀ c ∈ p, (if jS r c = jS s c then none else some (c, jS r c, jS s c)) = none) (fun p c t ρ K ec hK hi => ?_) (fun ρ hi => ?_) ⟨_, _, rfl, by simp⟩
    · obtain ⟨o2, o3, rfl, hi⟩ := hi
      have hc : c ∈ choicesL r.length := by rw [ec]; simp
      have h1 := choicesL_small hc
      have h2 := choicesL_mem hc
      walk_at "go"
      (try (walk_at "nv")); refine compGo_mapH PyData.int (fun j => r.getD j.toNat []) (fun x hx acc K2 hK2 => ?_) ?_
      · have hx := h2 x hx
        walk_at "go"
        refine getK_rule hx.1 hx.2 ?_
        walk_at "go"
        exact hK2
      · have ok1 := k1.pick h2 (by omega)
        have ok2 := k2.pick (c := c) (fun j hj => by have := h2 j hj; omega) (by omega)
        unfold pickC at ok1 ok2
        walk_at "go"
        (try (walk_at "nv")); refine compGo_mapH PyData.int (fun j => s.getD j.toNat []) (fun x hx acc K2 hK2 => ?_) ?_
        · have hx := h2 x hx
          walk_at "go"
          refine getK_rule hx.1 (by omega) ?_
          walk_at "go"
          exact hK2
        · walk_at "go"
          have j1 : jS r c = (joinL (c.map fun j => r.getD j.toNat [])).sum := rfl
          have j2 : jS s c = (joinL (c.map fun j => s.getD j.toNat [])).sum := rfl
          rw [← j1, ← j2]
          walk_at "br"
          · intro hne
            have hf : unlO r s = some (c, jS r c, jS s c) := by
              unfold unlO
              rw [ec]
              exact find_some_pre hi (if_neg hne)
            rw [hf] at q
            walk_at "go"
            exact q
          · intro heq
            walk_at "go"
            refine hK _ ⟨_, _, rfl, fun c' hc' => ?_⟩
            rcases List.mem_append.mp hc' with hc' | hc'
            · exact hi c' hc'
            · rw [List.mem_singleton.mp hc']; exact if_pos heq
    · obtain ⟨o2, o3, rfl, hi⟩ := hi
      have hf : unlO r s = none := List.findSome?_eq_none_iff.mpr hi
      rw [hf] at q
      refine stp_in ?_
      walk_at "go"
      exact q
  · exact hsp.elim

/- 0:_law_n 1:_law_top 2:_law_found 3:_law_part 4:_law_rest -/
def b__law_partings_e1 (k : Nat) : DE := (dFrz (dOp addD (dTup (dCons (dFrz (dVar 3)) dNil)) (dVar 4)))
def b__law_partings_f1 (k : Nat) : DS := (dExpr (dMu extF (dVar 2) (dCons (dFrz (dComp (dIt (dCall (sp__law_partings k) (dCons (dFrz (dOp subD (dVar 0) (dVar 3))) (dCons (dFrz (dVar 3)) dNil)))) (dgName 4) dYes (b__law_partings_e1 k) [4])) dNil)))
def b__law_partings_r1 (k : Nat) : DS := (dRet (dVar 2))
def b__law_partings_r2 (k : Nat) : DS := (dSeq (dSet 2 (dLst dNil)) (dSeq (dFor (dItR3 (dCons (dCB min2F (dCons (dVar 0) (dCons (dVar 1) dNil))) (dCons (dC (.int 0)) (dCons (dUn negD (dC (.int 1))) dNil)))) (dgName 3) (b__law_partings_f1 k)) (b__law_partings_r1 k)))
def b__law_partings (k : Nat) : DS := (dSeq (dIf (dBl (dOp eqD (dVar 0) (dC (.int 0)))) (dRet (dLst (dCons (dTup dNil) dNil))) dNext) (b__law_partings_r2 k))
theorem never__law_partings : ∀ os PP PX, sp__law_partings 0 os PP PX → False := by
  intro os P PX h
  unfold sp__law_partings at h
  split at h
  · obtain ⟨h1, h2, _⟩ := h
    omega
  · exact h
theorem pf__law_partings : ∀ k os PP PX, sp__law_partings (k + 1) os PP PX → b__law_partings k (endsOf os PP PX) (rho0 5 os) := by
  intro k os P PX h
  unfold sp__law_partings at h
  split at h
  · rename_i n m
    obtain ⟨n0, n1, n2, m0, m1, q⟩ := h
    have lk := pts_len24 (k := k + 1) (m := m.toNat) (show n.toNat ≤ 24 by omega)
    walk_at "go"
    walk_at "br"
    · intro e
      subst e
      walk_at "go"
      exact q
    · intro e
      have q1 : (pts (k + 1) n.toNat m.toNat) = (downTo (min n.toNat m.toNat)).flatMap fun p => (pts k (n.toNat - p) p).map fun r => (p : Int) :: r := by rw [pts, if_neg (by omega)]
      rw [q1] at q lk
      walk_at "go"
      have e2 : (List.range (min n m - 0).toNat).map (fun i => PyData.int (min n m - (i : Nat))) = (downTo (min n.toNat m.toNat)).map fun p : Nat => PyData.int (p : Int) := by
        unfold downTo
        rw [List.map_map, show (min n m - 0).toNat = min n.toNat m.toNat from by omega]
        apply List.map_congr_left
        intro j hj
        have := List.mem_range.mp hj
        show PyData.int (min n m - (j : Int)) = PyData.int ((min n.toNat m.toNat - j : Nat) : Int)
        rw [show min n m - (j : Int) = ((min n.toNat m.toNat - j : Nat) : Int) from by omega]
      rw [e2]
      (try (walk_at "nv")); refine forGo_pre (fun p : Nat => PyData.int (p : Int)) (fun p ρ => ∃ (ds : List D) (o3 : Option S), ds = (p.flatMap fun p => (pts k (n.toNat - p) p).map fun r => (p : Int) :: r).map hD ∧ ρ = [some (.d (.int n)), some (.d (.int m)), some (.own (.lst ds)), o3, none]) (xs := downTo (min n.toNat m.toNat)) (fun p x r ρ K e hK hi => ?_) (fun ρ hi => ?_) ⟨_, _, rfl, rfl⟩
      · obtain ⟨ds, o3, rfl, rfl⟩ := hi
        have hx : 1 ≤ x ∧ x ≤ min n.toNat m.toNat := mem_downTo.mp (by rw [e]; simp)
        have lp := flat_pre (fun p => (pts k (n.toNat - p) p).map fun r => (p : Int) :: r) (p := p ++ [x]) (r := r) (e.trans (by simp))
        rw [List.flatMap_append, List.length_append] at lp
        simp only [List.flatMap_cons, List.flatMap_nil, List.append_nil, List.length_map] at lp
        walk_at "go"
        rw [show (n - (x : Int)).toNat = n.toNat - x from by omega, Int.toNat_natCast]
        (try (walk_at "nv")); refine compGo_mapH hD (fun r => (x : Int) :: r) (fun r hr acc K2 hK2 => ?_) ?_
        · have hl := pts_small hr
          walk_at "go"
          exact hK2
        · walk_at "go"
          refine hK _ ⟨_, _, ?_, rfl⟩
          rw [List.flatMap_append, List.map_append]
          simp only [List.flatMap_cons, List.flatMap_nil, List.append_nil]
      · obtain ⟨ds, o3, rfl, rfl⟩ := hi
        walk_at "go"
        exact q
  · exact h.elim

/- 0:_law_found 1:_law_due 2:_law_one 3:_law_other -/
def b__law_same_e1 (k : Nat) : DE := (dFrz (dCall (sp__law_same k) (dCons (dFrz (dVar 2)) (dCons (dFrz (dVar 3)) dNil))))
def b__law_same_r1 (k : Nat) : DS := (dRet (dCB allF (dCons (dComp (dItZ (dCons (dFrz (dVar 0)) (dCons (dFrz (dVar 1)) dNil))) (dgTup [(dgName 2), (dgName 3)]) dYes (b__law_same_e1 k) [2, 3]) dNil)))
def b__law_same_r2 (k : Nat) : DS := (dSeq (dIf (dBl (dOp neD (dCB lenF (dCons (dVar 0) dNil)) (dCB lenF (dCons (dVar 1) dNil)))) (dRet (dC (.bool false))) dNext) (b__law_same_r1 k))
def b__law_same_r3 (k : Nat) : DS := (dRet (dAndV (dUn (isiD "int") (dVar 0)) (dAndV (dNotV (dUn (isiD "bool") (dVar 0))) (dOp eqD (dVar 0) (dVar 1)))))
def b__law_same_r4 (k : Nat) : DS := (dSeq (dIf (dTru (dUn (isiD "str") (dVar 1))) (dRet (dAndV (dUn (isiD "str") (dVar 0)) (dOp eqD (dVar 0) (dVar 1)))) dNext) (b__law_same_r3 k))
def b__law_same_r5 (k : Nat) : DS := (dSeq (dIf (dOrT (dBl (dOp isD (dVar 1) (dC .none))) (dOrT (dBl (dOp isD (dVar 1) (dC (.bool true)))) (dBl (dOp isD (dVar 1) (dC (.bool false)))))) (dRet (dAndV (dOp eqD (dUn (isiD "bool") (dVar 0)) (dUn (isiD "bool") (dVar 1))) (dOp eqD (dVar 0) (dVar 1)))) dNext) (b__law_same_r4 k))
def b__law_same (k : Nat) : DS := (dSeq (dIf (dTru (dUn (isi2D "list" "tuple") (dVar 1))) (dSeq (dIf (dOrT (dBl (dOp neD (dUn (isiD "list") (dVar 0)) (dUn (isiD "list") (dVar 1)))) (dBl (dOp neD (dUn (isiD "tuple") (dVar 0)) (dUn (isiD "tuple") (dVar 1))))) (dRet (dC (.bool false))) dNext) (b__law_same_r2 k)) dNext) (b__law_same_r5 k))
theorem never__law_same : ∀ os PP PX, sp__law_same 0 os PP PX → False := by
  intro os P PX h
  unfold sp__law_same at h
  split at h
  · exact h.2.1
  · exact h
theorem same_sh (d : D) : ∀ k, okSame k d → True := fun _ _ => trivial
theorem pf__law_same : ∀ k os PP PX, sp__law_same (k + 1) os PP PX → b__law_same k (endsOf os PP PX) (rho0 4 os) := by
  intro k os P PX hsp
  unfold sp__law_same at hsp
  split at hsp
  · rename_i d e
    obtain ⟨h1, h2, q⟩ := hsp
    subst h1
    have e : ∀ xs : List (D × D), (xs.map fun _ => true).all id = true := fun xs => by simp
    cases d with
    | dict _ => exact h2.elim
    | int i => walk_at "go"; rw [eqv_I, decide_eq_true rfl]; exact q
    | bool b => cases b <;> (walk_at "go"; exact q)
    | none => walk_at "go"; exact q
    | str s => have h3 : SeqAt.shaped (.str s) = true := h2; walk_at "go"; rw [eqv_str]; exact q
    | list ds =>
      have z := zipD_map id id ds ds
      rw [List.map_id] at z
      walk_at "go"
      rw [z]
      (try (walk_at "nv")); refine compGo_mapB (fun p : D × D => PyData.tuple [id p.1, id p.2]) (fun _ => true) (fun x hx acc K hK => ?_) ?_
      · have e1 := zip_same hx
        have e2 := h2 _ (zip_mem hx)
        obtain ⟨x, y⟩ := x
        cases e1
        walk_at "go"
        exact hK
      · walk_at "go"
        rw [e]
        exact q
    | tuple ds =>
      have z := zipD_map id id ds ds
      rw [List.map_id] at z
      walk_at "go"
      rw [z]
      (try (walk_at "nv")); refine compGo_mapB (fun p : D × D => PyData.tuple [id p.1, id p.2]) (fun _ => true) (fun x hx acc K hK => ?_) ?_
      · have e1 := zip_same hx
        have e2 := h2 _ (zip_mem hx)
        obtain ⟨x, y⟩ := x
        cases e1
        walk_at "go"
        exact hK
      · walk_at "go"
        rw [e]
        exact q
  · exact hsp.elim

/- 0:_law_heap_here 1:_law_out 2:_law_rest 3:_law_part -/
def b__law_less_f1 : DS := (dExpr (dMu remF (dVar 2) (dCons (dFrz (dVar 3)) dNil)))
def b__law_less_r1 : DS := (dRet (dCB tupleF (dCons (dVar 2) dNil)))
def b__law_less : DS := (dSeq (dSet 2 (dCB listF (dCons (dVar 0) dNil))) (dSeq (dFor (dIt (dFrz (dVar 1))) (dgName 3) b__law_less_f1) b__law_less_r1))
theorem pf__law_less : ∀ os PP PX, sp__law_less os PP PX → b__law_less (endsOf os PP PX) (rho0 4 os) := by
  intro os P PX hsp
  unfold sp__law_less at hsp
  split at hsp
  · obtain ⟨h, rfl, g0⟩ := heapK_of hsp
    obtain ⟨a, rfl, hl, li, q⟩ := heapK_of g0
    have li := liesIn_iff.mp li
    walk_at "go"
    (try (walk_at "nv")); refine forGo_pre PyData.int (fun p ρ => ∃ o3 : Option S, ρ = [some (.d (hD h)), some (.d (hD a)), some (.own (.lst ((takeOff p h).map PyData.int))), o3]) (fun p x t ρ K e hK hi => ?_) (fun ρ hi => ?_) ⟨_, rfl⟩
    · obtain ⟨o3, rfl⟩ := hi
      have hx : x ∈ takeOff p h := by
        have h1 := takeOff_perm p h fun y => by
          have := li y
          rw [e, List.count_append] at this
          omega
        have h2 := li x
        rw [e, h1.count_eq, List.count_append, List.count_append, List.count_cons_self] at h2
        exact List.count_pos_iff.mp (by omega)
      have e1 : takeOff (p ++ [x]) h = (takeOff p h).erase x := by unfold takeOff; rw [List.foldl_append]; rfl
      walk_at "go"
      exact hK _ ⟨_, by rw [e1]; rfl⟩
    · obtain ⟨o3, rfl⟩ := hi
      walk_at "go"
      exact q
  · exact hsp.elim

/- 0:_law_one 1:_law_other -/
def b__law_put : DS := (dRet (dCB tupleF (dCons (dCB sortRF (dCons (dOp addD (dVar 0) (dVar 1)) dNil)) dNil)))
theorem pf__law_put : ∀ os PP PX, sp__law_put os PP PX → b__law_put (endsOf os PP PX) (rho0 2 os) := by
  intro os P PX hsp
  unfold sp__law_put at hsp
  split at hsp
  · obtain ⟨a, rfl, g0⟩ := heapK_of hsp
    obtain ⟨b, rfl, hl, q⟩ := heapK_of g0
    walk_at "go"
    exact q
  · exact hsp.elim

/- 0:_law_rules 1:_law_place 2:_law_side 3:_law_heap_here 4:_law_choice 5:_law_out 6:_law_number 7:_law_more -/
def b__law_crossed_e1 : DE := (dFrz (dOp ixD (dOp ixD (dVar 0) (dOp subD (dVar 2) (dC (.int 1)))) (dVar 6)))
def b__law_crossed_e2 : DE := (dFrz (dOp ixD (dOp ixD (dVar 0) (dOp subD (dC (.int 2)) (dVar 2))) (dVar 6)))
def b__law_crossed : DS := (dSeq (dAsgT (dFrz (dVar 1)) (dgTup [(dgName 2), (dgName 3), (dgName 4)])) (dSeq (dSet 5 (dCall sp__law_joined (dCons (dFrz (dComp (dIt (dFrz (dVar 4))) (dgName 6) dYes b__law_crossed_e1 [6])) dNil))) (dSeq (dSet 7 (dCall sp__law_joined (dCons (dFrz (dComp (dIt (dFrz (dVar 4))) (dgName 6) dYes b__law_crossed_e2 [6])) dNil))) (dRet (dTup (dCons (dFrz (dOp subD (dC (.int 3)) (dVar 2))) (dCons (dFrz (dCall sp__law_put (dCons (dFrz (dCall sp__law_less (dCons (dFrz (dVar 3)) (dCons (dFrz (dVar 5)) dNil)))) (dCons (dFrz (dVar 7)) dNil)))) (dCons (dFrz (dVar 4)) dNil))))))))
theorem pf__law_crossed : ∀ os PP PX, sp__law_crossed os PP PX → b__law_crossed (endsOf os PP PX) (rho0 8 os) := by
  intro os P PX hsp
  unfold sp__law_crossed at hsp
  split at hsp
  · obtain ⟨a, b, rfl, g0⟩ := rrK_of hsp
    obtain ⟨⟨i, h, c⟩, rfl, M, hp, hl, q⟩ := plK_of g0
    have P1 := isPl_iff.mp hp
    have hs : i = 1 ∨ i = 2 := P1.side
    have ko := (own_any M i).okJ (by decide)
    have ks := (own_any M i).symm.okJ (by decide)
    have P0 : PairP (ownR a b i) (h, c) := P1.pair
    have o6 := (own_any M i).most
    have ix : okC (ownR a b i).length c := P0.at'
    have cl := pair_short P0
    have cl2 : c.length ≤ 1000 := by omega
    have li := liesIn_iff.mpr (pair_join P0)
    have hol : (othR a b i).length = (ownR a b i).length := oth_len (p := (i, h, c)) M
    have ix2 : okC (othR a b i).length c := fun j hj => by rw [hol]; exact ix j hj
    have hl : h.length ≤ 500 := hl
    have jl := join_short (own_any M i).symm ix2
    have tl := (takeOff_sub (joinL (pickC (ownR a b i) c)) h).length_le
    have k1 := ko.pick ix cl2
    have k2 := ks.pick ix2 cl2
    unfold pickC at k1 k2
    have bl : (takeOff (joinL (pickC (ownR a b i) c)) h).length + (joinL (pickC (othR a b i) c)).length ≤ 1000 := by omega
    have pc := putH_comm (takeOff (joinL (pickC (ownR a b i) c)) h) (joinL (pickC (othR a b i) c))
    have q : P (.d (.tuple [.int (3 - i), hD (putH (joinL (pickC (othR a b i) c)) (takeOff (joinL (pickC (ownR a b i) c)) h)), hD c])) [.d (.tuple [rD a, rD b]), .d (plD (i, h, c))] := q
    rcases hs with rfl | rfl
    · walk_at "go"
      (try (walk_at "nv")); refine compGo_mapH PyData.int (fun j => a.getD j.toNat []) (fun x hx acc K2 hK2 => ?_) ?_
      · have := ix x hx
        walk_at "go"
        refine getK_rule (r := a) this.1 this.2 ?_
        walk_at "go"
        exact hK2
      · walk_at "go"
        (try (walk_at "nv")); refine compGo_mapH PyData.int (fun j => b.getD j.toNat []) (fun x hx acc K2 hK2 => ?_) ?_
        · have := ix2 x hx
          walk_at "go"
          refine getK_rule (r := b) this.1 this.2 ?_
          walk_at "go"
          exact hK2
        · walk_at "go"
          rw [← pc] at q
          exact q
    · walk_at "go"
      (try (walk_at "nv")); refine compGo_mapH PyData.int (fun j => b.getD j.toNat []) (fun x hx acc K2 hK2 => ?_) ?_
      · have := ix x hx
        walk_at "go"
        refine getK_rule (r := b) this.1 this.2 ?_
        walk_at "go"
        exact hK2
      · walk_at "go"
        (try (walk_at "nv")); refine compGo_mapH PyData.int (fun j => a.getD j.toNat []) (fun x hx acc K2 hK2 => ?_) ?_
        · have := ix2 x hx
          walk_at "go"
          refine getK_rule (r := a) this.1 this.2 ?_
          walk_at "go"
          exact hK2
        · walk_at "go"
          rw [← pc] at q
          exact q
  · exact hsp.elim

/- 0:_law_rules 1:_law_place 2:_law_side 3:_law_heap_here 4:_law_choice 5:_law_number 6:_law_one -/
def b__law_toggled_t1 : DT := (dBl (dOp neD (dVar 6) (dVar 5)))
def b__law_toggled_e1 : DE := (dFrz (dVar 6))
def b__law_toggled_r1 : DS := (dRet (dTup (dCons (dFrz (dVar 2)) (dCons (dFrz (dVar 3)) (dCons (dCB tupleF (dCons (dCB sortF (dCons (dOp addD (dVar 4) (dTup (dCons (dFrz (dVar 5)) dNil))) dNil)) dNil)) dNil)))))
def b__law_toggled_r2 : DS := (dSeq (dIf (dBl (dOp inD (dVar 5) (dVar 4))) (dRet (dTup (dCons (dFrz (dVar 2)) (dCons (dFrz (dVar 3)) (dCons (dCB tupleF (dCons (dComp (dIt (dFrz (dVar 4))) (dgName 6) b__law_toggled_t1 b__law_toggled_e1 [6]) dNil)) dNil))))) dNext) (stp b__law_toggled_r1))
def b__law_toggled : DS := (dSeq (dAsgT (dFrz (dVar 1)) (dgTup [(dgName 2), (dgName 3), (dgName 4)])) (dSeq (dSet 5 (dCall sp__law_first (dCons (dFrz (dOp ixD (dVar 0) (dOp subD (dVar 2) (dC (.int 1))))) (dCons (dFrz (dVar 3)) dNil)))) (dSeq (dIf (dBl (dOp isD (dVar 5) (dC .none))) (dRet (dC .none)) dNext) (stp b__law_toggled_r2))))
theorem pf__law_toggled : ∀ os PP PX, sp__law_toggled os PP PX → b__law_toggled (endsOf os PP PX) (rho0 7 os) := by
  intro os P PX hsp
  unfold sp__law_toggled at hsp
  split at hsp
  · obtain ⟨a, b, rfl, g0⟩ := rrK_of hsp
    obtain ⟨⟨i, h, c⟩, rfl, ha, hb, hcl, hs, q⟩ := plK_of g0
    have hcl : c.length ≤ 100 := hcl
    have hs : i = 1 ∨ i = 2 := hs
    have tn : ∀ A, ownR a b i = A → firstN A h = none → opPl (togP a b (i, h, c)) = opPl none := fun A e1 e2 => by
      have : togP a b (i, h, c) = none := tog_none_iff.mpr (by show firstN (ownR a b i) h = none; rw [e1]; exact e2)
      rw [this]
    have tsm : ∀ A, ownR a b i = A → ∀ j, firstN A h = some j → togP a b (i, h, c) = some (i, h, flip1 (j : Int) c) := fun A e1 j e2 => by
      unfold togP partL
      show ((firstN (ownR a b i) h).map _).map _ = _
      rw [e1, e2]
      rfl
    rcases hs with rfl | rfl
    · have own : ownR a b 1 = a := rfl
      cases hf : firstN a h with
      | none =>
        rw [tn a own hf] at q
        walk_at "go"
        rw [hf]
        walk_at "go"
        exact q
      | some j =>
        rw [tsm a own j hf] at q
        walk_at "go"
        rw [hf]
        walk_at "go"
        refine stp_in ?_
        walk_at "go"
        walk_at "br"
        · intro hm
          have e9 : flip1 (j : Int) c = c.filter fun x => decide (x ≠ (j : Int)) := if_pos hm
          walk_at "go"
          (try (walk_at "nv")); refine compGo_keep PyData.int (fun x => decide (x ≠ (j : Int))) (fun x hx acc K h1 h2 => ?_) ?_
          · walk_at "go"
            walk_at "br"
            · intro e2
              walk_at "go"
              exact h1 (decide_eq_true e2)
            · intro e2
              walk_at "go"
              exact h2 (decide_eq_false (by simpa using e2))
          · rw [← e9]
            walk_at "go"
            exact q
        · intro hm
          have e9 : flip1 (j : Int) c = srt (c ++ [(j : Int)]) := if_neg hm
          rw [e9] at q
          walk_at "go"
          refine stp_in ?_
          walk_at "go"
          refine intsK_mk (c ++ [(j : Int)]) (by simp [optI]) ?_
          walk_at "go"
          exact q
    · have own : ownR a b 2 = b := rfl
      cases hf : firstN b h with
      | none =>
        rw [tn b own hf] at q
        walk_at "go"
        rw [hf]
        walk_at "go"
        exact q
      | some j =>
        rw [tsm b own j hf] at q
        walk_at "go"
        rw [hf]
        walk_at "go"
        refine stp_in ?_
        walk_at "go"
        walk_at "br"
        · intro hm
          have e9 : flip1 (j : Int) c = c.filter fun x => decide (x ≠ (j : Int)) := if_pos hm
          walk_at "go"
          (try (walk_at "nv")); refine compGo_keep PyData.int (fun x => decide (x ≠ (j : Int))) (fun x hx acc K h1 h2 => ?_) ?_
          · walk_at "go"
            walk_at "br"
            · intro e2
              walk_at "go"
              exact h1 (decide_eq_true e2)
            · intro e2
              walk_at "go"
              exact h2 (decide_eq_false (by simpa using e2))
          · rw [← e9]
            walk_at "go"
            exact q
        · intro hm
          have e9 : flip1 (j : Int) c = srt (c ++ [(j : Int)]) := if_neg hm
          rw [e9] at q
          walk_at "go"
          refine stp_in ?_
          walk_at "go"
          refine intsK_mk (c ++ [(j : Int)]) (by simp [optI]) ?_
          walk_at "go"
          exact q
  · exact hsp.elim

/- 0:_law_rules 1:_law_rows 2:_law_at 3:_law_due -/
def b__law_steps_right_r1 : DS := (dIf (dOrT (dBl (dOp isD (dVar 3) (dC .none))) (dNotT (dTru (dCall (sp__law_same 6) (dCons (dFrz (dOp ixD (dVar 1) (dVar 2))) (dCons (dFrz (dVar 3)) dNil)))))) (dRet (dC (.bool false))) dNext)
def b__law_steps_right_f1 : DS := (dSeq (dSet 3 (dCall sp__law_crossed (dCons (dFrz (dVar 0)) (dCons (dFrz (dOp ixD (dVar 1) (dOp subD (dVar 2) (dC (.int 1))))) dNil)))) (dSeq (dIf (dBl (dOp eqD (dOp modD (dVar 2) (dC (.int 2))) (dC (.int 0)))) (dSet 3 (dCall sp__law_toggled (dCons (dFrz (dVar 0)) (dCons (dFrz (dOp ixD (dVar 1) (dOp subD (dVar 2) (dC (.int 1))))) dNil)))) dNext) (stp b__law_steps_right_r1)))
def b__law_steps_right_r2 : DS := (dRet (dAndV (dOp eqD (dLenSetN (dVar 1)) (dCB lenF (dCons (dVar 1) dNil))) (dOp eqD (dOp modD (dCB lenF (dCons (dVar 1) dNil)) (dC (.int 4))) (dC (.int 2)))))
def b__law_steps_right : DS := (dSeq (dFor (dItR2 (dCons (dC (.int 1)) (dCons (dCB lenF (dCons (dVar 1) dNil)) dNil))) (dgName 2) b__law_steps_right_f1) (stp b__law_steps_right_r2))
theorem pf__law_steps_right : ∀ os PP PX, sp__law_steps_right os PP PX → b__law_steps_right (endsOf os PP PX) (rho0 4 os) := by
  intro os P PX hsp
  unfold sp__law_steps_right at hsp
  split at hsp
  · obtain ⟨a, b, rfl, g0⟩ := rrK_of hsp
    obtain ⟨rows, rfl, M, hl, ⟨h, w, hs⟩, q⟩ := lplK_of g0
    have hlen : (rows.map plD).length = rows.length := List.length_map ..
    have hl2 : (rows.map plD).length ≤ 8388608 := by omega
    have e6 : a.length ≤ 6 := M.most
    have e7 := M.len
    walk_at "go"
    (try (walk_at "nv")); refine forGo_pre (fun p : Nat => PyData.int (1 + (p : Int))) (fun p ρ => ∃ o2 o3 : Option S, ρ = [some (.d (.tuple [rD a, rD b])), some (.d (.list (rows.map plD))), o2, o3]) (xs := List.range (((rows.map plD).length : Int) - 1).toNat) (fun p x s ρ K e hK hi => ?_) (fun ρ hi => ?_) ⟨_, _, rfl⟩
    · obtain ⟨o2, o3, rfl⟩ := hi
      obtain ⟨rfl, hx⟩ := range_split e
      have hx1 : x + 1 < rows.length := by omega
      have x0 : x < rows.length := by omega
      have at0 : rows[x]? = some rows[x] := List.getElem?_eq_getElem x0
      have at1 : rows[x + 1]? = some rows[x + 1] := List.getElem?_eq_getElem hx1
      have st := w.by'.next x _ _ at0 at1
      obtain ⟨pl, ph, ps⟩ := (w.at' M x _ at0).place M
      have hle := heap_len ph.2
      have b1 := isPl_iff.mpr pl
      have b2 : rows[x].2.1.length ≤ 500 := by omega
      have b3 := pl.side
      have b4 : rows[x].2.2.length ≤ 100 := by
        have := pair_short pl.pair
        have hz : (ownR a b rows[x].1).length = a.length := by
          rcases pl.side with e | e
          · rw [e]; rfl
          · rw [e]; exact e7.symm
        omega
      have nx := fun o2 o3 => hK _ ⟨o2, o3, rfl⟩
      unfold stepR at st
      walk_at "go"
      refine getK_nat x (by omega) x0 ?_
      walk_at "go"
      by_cases c : (1 + x) % 2 = 1
      · rw [if_pos c] at st
        have c2 : ¬ (1 + (x : Int)) % 2 = 0 := by omega
        have s1 : crossP a b rows[x] = rows[x + 1] := by simpa using st
        rw [s1]
        walk_at "go"
        refine stp_in ?_
        walk_at "go"
        refine getK_nat (x + 1) (by omega) hx1 ?_
        walk_at "go"
        refine And.intro (ok_pl 3 rows[x + 1]) ?_
        walk_at "go"
        exact nx _ _
      · rw [if_neg c] at st
        have c2 : (1 + (x : Int)) % 2 = 0 := by omega
        walk_at "go"
        refine getK_nat x (by omega) x0 ?_
        walk_at "go"
        rw [st]
        walk_at "go"
        refine stp_in ?_
        walk_at "go"
        refine getK_nat (x + 1) (by omega) hx1 ?_
        walk_at "go"
        refine And.intro (ok_pl 3 rows[x + 1]) ?_
        walk_at "go"
        exact nx _ _
    · obtain ⟨o2, o3, rfl⟩ := hi
      refine stp_in ?_
      walk_at "go"
      refine nodK_pl (w.nodup M) hl ?_
      have four := w.four M
      have four2 : (((rows.map plD).length : Nat) : Int) % 4 = 2 := by omega
      walk_at "go"
      rw [four2]
      exact q
  · exact hsp.elim

/- 0:self -/
def b_Beside_rules : DS := (dRet (dTup (dCons (dFrz (dFldL (dVar 0))) (dCons (dFrz (dFldR (dVar 0))) dNil))))
theorem pf_Beside_rules : ∀ os PP PX, sp_Beside_rules os PP PX → b_Beside_rules (endsOf os PP PX) (rho0 1 os) := by
  intro os P PX hsp
  unfold sp_Beside_rules at hsp
  split at hsp
  · obtain ⟨l, r, rfl, q⟩ := besK_of hsp
    walk_at "go"
    exact q
  · exact hsp.elim

/- 0:one 1:other 2:part -/
def b_lies_in_e1 : DE := (dOp leD (dCnt (dVar 0) (dCons (dVar 2) dNil)) (dCnt (dVar 1) (dCons (dVar 2) dNil)))
def b_lies_in : DS := (dRet (dCB allF (dCons (dComp (dIt (dFrz (dVar 0))) (dgName 2) dYes b_lies_in_e1 [2]) dNil)))
theorem pf_lies_in : ∀ os PP PX, sp_lies_in os PP PX → b_lies_in (endsOf os PP PX) (rho0 3 os) := by
  intro os P PX h
  unfold sp_lies_in at h
  split at h
  · obtain ⟨ns, rfl, q0⟩ := heapK_of h
    obtain ⟨ms, rfl, q⟩ := heapK_of q0
    walk_at "go"
    (try (walk_at "nv")); refine compGo_mapB PyData.int (fun x => decide (((ns.count x : Nat) : Int) ≤ ((ms.count x : Nat) : Int))) (fun x hx acc K hK => ?_) ?_
    · walk_at "go"
      exact hK
    · walk_at "go"
      have e : (List.map (fun x => decide (((ns.count x : Nat) : Int) ≤ ((ms.count x : Nat) : Int))) ns).all id = liesIn ns ms := by unfold liesIn; rw [List.all_map]; rfl
      rw [e]
      exact q
  · exact h.elim

/- 0:rule 1:heap 2:number 3:one -/
def b_all_in_t1 : DT := (dTru (dCall sp_lies_in (dCons (dFrz (dVar 3)) (dCons (dFrz (dVar 1)) dNil))))
def b_all_in_e1 : DE := (dFrz (dVar 2))
def b_all_in : DS := (dRet (dComp (dItE (dCons (dFrz (dVar 0)) dNil)) (dgTup [(dgName 2), (dgName 3)]) b_all_in_t1 b_all_in_e1 [2, 3]))
theorem pf_all_in : ∀ os PP PX, sp_all_in os PP PX → b_all_in (endsOf os PP PX) (rho0 4 os) := by
  intro os P PX hsp
  unfold sp_all_in at hsp
  split at hsp
  · obtain ⟨r, rfl, g0⟩ := ruleK_of hsp
    obtain ⟨h, rfl, q⟩ := heapK_of g0
    walk_at "go"
    rw [pairD_map]
    (try (walk_at "nv")); refine compGo_filter (fun p : Nat × Heap1 => PyData.tuple [.int (0 + (p.1 : Int)), hD p.2]) (fun p => liesIn p.2 h) (fun p => .int (0 + (p.1 : Int))) (fun p hp acc K h1 h2 => ?_) ?_
    · obtain ⟨i, x⟩ := p
      walk_at "go"
      walk_at "br"
      · intro e; walk_at "go"; exact h1 e
      · intro e; walk_at "go"; exact h2 e
    · walk_at "go"
      unfold allIn at q
      rw [List.map_map] at q
      simp only [Int.zero_add] 
      exact q
  · exact hsp.elim

/- 0:rule 1:heap 2:found -/
def b_first_in_r1 : DS := (dRet (dC .none))
def b_first_in : DS := (dSeq (dSet 2 (dCall sp_all_in (dCons (dFrz (dVar 0)) (dCons (dFrz (dVar 1)) dNil)))) (dSeq (dIf (dTru (dVar 2)) (dRet (dOp ixD (dVar 2) (dC (.int 0)))) dNext) b_first_in_r1))
theorem pf_first_in : ∀ os PP PX, sp_first_in os PP PX → b_first_in (endsOf os PP PX) (rho0 3 os) := by
  intro os P PX hsp
  unfold sp_first_in at hsp
  split at hsp
  · obtain ⟨r, rfl, g0⟩ := ruleK_of hsp
    obtain ⟨h, rfl, q⟩ := heapK_of g0
    have hf := allIn_head r h
    walk_at "go"
    walk_at "br"
    · intro hne
      obtain ⟨x, xs, hx⟩ := List.exists_cons_of_ne_nil hne
      rw [hx] at hf
      rw [hx]
      rw [← hf] at q
      walk_at "go"
      exact q
    · intro he
      rw [he] at hf
      rw [← hf] at q
      walk_at "go"
      exact q
  · exact hsp.elim

/- 0:sided 1:heap 2:number -/
def b_held_keeper : DS := (dSeq (dSet 2 (dCall sp_first_in (dCons (dFrz (dOp ixD (dMeth sp_Beside_rules (dVar 0)) (dC (.int 0)))) (dCons (dFrz (dVar 1)) dNil)))) (dIf (dBl (dOp isNotD (dVar 2) (dC .none))) (dRaiseF 18 ["number"] (dCons (dFrz (dVar 2)) dNil)) dNext))
theorem pf_held_keeper : ∀ os PP PX, sp_held_keeper os PP PX → b_held_keeper (endsOf os PP PX) (rho0 3 os) := by
  intro os P PX hsp
  unfold sp_held_keeper at hsp
  split at hsp
  · obtain ⟨a, b, rfl, g0⟩ := besR_of hsp
    obtain ⟨h, rfl, q⟩ := heapK_of g0
    cases hf : firstN a h with
    | none =>
      rw [hf] at q
      walk_at "go"
      rw [hf]
      walk_at "go"
      exact q
    | some j =>
      rw [hf] at q
      walk_at "go"
      rw [hf]
      walk_at "go"
      exact q
  · exact hsp.elim

/- 0:rule 1:heap 2:choice 3:last 4:number -/
def b_is_pair_r1 : DS := (dSet 3 (dVar 4))
def b_is_pair_f1 : DS := (dSeq (dIf (dOrT (dBl (dOp leD (dVar 4) (dVar 3))) (dOrT (dBl (dOp geD (dVar 4) (dCB lenF (dCons (dVar 0) dNil)))) (dNotT (dTru (dCall sp_lies_in (dCons (dFrz (dOp ixD (dVar 0) (dVar 4))) (dCons (dFrz (dVar 1)) dNil))))))) (dRet (dC (.bool false))) dNext) (stp b_is_pair_r1))
def b_is_pair_r2 : DS := (dRet (dC (.bool true)))
def b_is_pair : DS := (dSeq (dSet 3 (dUn negD (dC (.int 1)))) (dSeq (dFor (dIt (dFrz (dVar 2))) (dgName 4) b_is_pair_f1) b_is_pair_r2))
theorem pairG_pre {r : List Heap1} {h : Heap1} : ∀ {p s : List Int} {last : Int}, pairG r h last p = true → pairG r h last (p ++ s) = pairG r h (p.getLastD last) s
  | [], s, last, _ => rfl
  | n :: p, s, last, e => by
    rw [pairG, Bool.and_eq_true, Bool.and_eq_true, Bool.and_eq_true] at e
    obtain ⟨e1, e2, e3, e4⟩ := e
    rw [List.cons_append, pairG, e1, e2, e3, pairG_pre e4]
    cases p <;> rfl
theorem lastD_snoc (p : List Int) (n last : Int) : (p ++ [n]).getLastD last = n := by simp
theorem pf_is_pair : ∀ os PP PX, sp_is_pair os PP PX → b_is_pair (endsOf os PP PX) (rho0 5 os) := by
  intro os P PX hsp
  unfold sp_is_pair at hsp
  split at hsp
  · obtain ⟨r, rfl, g0⟩ := ruleK_of hsp
    obtain ⟨h, rfl, g1⟩ := heapK_of g0
    obtain ⟨c, rfl, hl, q⟩ := heapK_of g1
    have hl1 : (r.map hD).length = r.length := List.length_map ..
    walk_at "go"
    (try (walk_at "nv")); refine forGo_pre PyData.int (fun p ρ => ∃ o4 : Option S, ρ = [some (.d (rD r)), some (.d (hD h)), some (.d (hD c)), some (.d (.int (p.getLastD (-1)))), o4] ∧ pairG r h (-1) p = true ∧ -1 ≤ p.getLastD (-1)) (fun p n s ρ K e hK hi => ?_) (fun ρ hi => ?_) ⟨_, rfl, rfl, by decide⟩
    · obtain ⟨o4, rfl, hp, hlast⟩ := hi
      have hc : pairG r h (-1) c = pairG r h (p.getLastD (-1)) (n :: s) := by rw [e]; exact pairG_pre hp
      obtain ⟨last, hlst⟩ : ∃ last, p.getLastD (-1) = last := ⟨_, rfl⟩
      have hK2 : pairG r h (-1) (p ++ [n]) = true → -1 ≤ n → K [some (.d (rD r)), some (.d (hD h)), some (.d (hD c)), some (.d (.int n)), some (.d (.int n))] := fun a b => hK _ ⟨_, by rw [lastD_snoc], a, by rw [lastD_snoc]; exact b⟩
      have hpp := pairG_pre (s := [n]) hp
      rw [hlst] at hc hlast hpp
      have no : pairG r h last (n :: s) = false → P (.d (.bool false)) [.d (rD r), .d (hD h), .d (hD c)] := fun z => by
        have : isPairB r (h, c) = false := hc.trans z
        rw [this] at q
        exact q
      rw [hlst]
      walk_at "go"
      walk_at "br"
      · intro e1
        have q := no (by rw [pairG, decide_eq_false (by omega)]; rfl)
        walk_at "go"
        exact q
      · intro e1
        walk_at "go"
        rw [hl1]
        walk_at "br"
        · intro e2
          have q := no (by rw [pairG, decide_eq_true (by omega : last < n), decide_eq_false (by omega)]; rfl)
          walk_at "go"
          exact q
        · intro e2
          walk_at "go"
          refine getK_rule (by omega) (by omega) ?_
          walk_at "go"
          cases hli : liesIn (r.getD n.toNat []) h with
          | false =>
            have q := no (by rw [pairG, hli, decide_eq_true (by omega : last < n), decide_eq_true (by omega : n < (r.length : Int))]; rfl)
            walk_at "go"
            exact q
          | true =>
            have q := hK2 (by rw [hpp, pairG, hli, decide_eq_true (by omega : last < n), decide_eq_true (by omega : n < (r.length : Int))]; rfl) (by omega)
            walk_at "go"
            refine stp_in ?_
            walk_at "go"
            exact q
    · obtain ⟨o4, rfl, hp, hlast⟩ := hi
      have : isPairB r (h, c) = true := hp
      rw [this] at q
      walk_at "go"
      exact q
  · exact hsp.elim

/- 0:rule 1:pair -/
def b_held_pair_r1 : DS := (dRet (dVar 1))
def b_held_pair : DS := (dSeq (dIf (dNotT (dTru (dCall sp_is_pair (dCons (dFrz (dVar 0)) (dCons (dFrz (dOp ixD (dVar 1) (dC (.int 0)))) (dCons (dFrz (dOp ixD (dVar 1) (dC (.int 1)))) dNil)))))) (dRaise 7) dNext) (stp b_held_pair_r1))
theorem pf_held_pair : ∀ os PP PX, sp_held_pair os PP PX → b_held_pair (endsOf os PP PX) (rho0 2 os) := by
  intro os P PX hsp
  unfold sp_held_pair at hsp
  split at hsp
  · obtain ⟨r, rfl, g0⟩ := ruleK_of hsp
    obtain ⟨⟨h, c⟩, rfl, hl, q1, q2⟩ := prK_of g0
    cases e : isPairB r (h, c) with
    | true =>
      have q := q1 e
      walk_at "go"
      refine stp_in ?_
      walk_at "go"
      exact q
    | false =>
      have q := q2 e
      walk_at "go"
      exact q
  · exact hsp.elim

/- 0:parts 1:part -/
def b_heap_of_f1 : DS := (dIf (dBl (dOp ltD (dVar 1) (dC (.int 1)))) (dRaiseF 17 ["part"] (dCons (dFrz (dVar 1)) dNil)) dNext)
def b_heap_of_r1 : DS := (dRet (dCB tupleF (dCons (dRev (dCB sortF (dCons (dVar 0) dNil))) dNil)))
def b_heap_of : DS := (dSeq (dFor (dIt (dFrz (dVar 0))) (dgName 1) b_heap_of_f1) b_heap_of_r1)
theorem pf_heap_of : ∀ os PP PX, sp_heap_of os PP PX → b_heap_of (endsOf os PP PX) (rho0 2 os) := by
  intro os P PX h
  unfold sp_heap_of at h
  split at h
  · obtain ⟨hl, h⟩ := h
    obtain ⟨ns, rfl, q1, q2⟩ := intsK_of h
    walk_at "go"
    (try (walk_at "nv")); refine forGo_ind PyData.int (fun r ρ => ∃ o1 : Option S, ρ = [some (.d (.list (ns.map PyData.int))), o1] ∧ ns.find? (fun y => decide (y < 1)) = r.find? (fun y => decide (y < 1))) (fun x r ρ K hK hi => ?_) (fun ρ hi => ?_) ns _ ⟨_, rfl, rfl⟩
    · obtain ⟨o1, rfl, hi⟩ := hi
      walk_at "go"
      walk_at "br"
      · intro e
        rw [List.find?_cons_of_pos (by simpa using e)] at hi
        walk_at "go"
        exact q1 x hi
      · intro e
        rw [List.find?_cons_of_neg (by simpa using e)] at hi
        walk_at "go"
        exact hK _ ⟨_, rfl, hi⟩
    · obtain ⟨o1, rfl, hi⟩ := hi
      have q := q2 hi
      walk_at "go"
      rw [← List.map_reverse]
      exact q
  · obtain ⟨hl, h⟩ := h
    obtain ⟨ns, rfl, q1, q2⟩ := intsK_of h
    walk_at "go"
    (try (walk_at "nv")); refine forGo_ind PyData.int (fun r ρ => ∃ o1 : Option S, ρ = [some (.d (.tuple (ns.map PyData.int))), o1] ∧ ns.find? (fun y => decide (y < 1)) = r.find? (fun y => decide (y < 1))) (fun x r ρ K hK hi => ?_) (fun ρ hi => ?_) ns _ ⟨_, rfl, rfl⟩
    · obtain ⟨o1, rfl, hi⟩ := hi
      walk_at "go"
      walk_at "br"
      · intro e
        rw [List.find?_cons_of_pos (by simpa using e)] at hi
        walk_at "go"
        exact q1 x hi
      · intro e
        rw [List.find?_cons_of_neg (by simpa using e)] at hi
        walk_at "go"
        exact hK _ ⟨_, rfl, hi⟩
    · obtain ⟨o1, rfl, hi⟩ := hi
      have q := q2 hi
      walk_at "go"
      rw [← List.map_reverse]
      exact q
  · exact h.elim

/- 0:one 1:other -/
def b_put : DS := (dRet (dCall sp_heap_of (dCons (dFrz (dOp addD (dVar 0) (dVar 1))) dNil)))
theorem pf_put : ∀ os PP PX, sp_put os PP PX → b_put (endsOf os PP PX) (rho0 2 os) := by
  intro os P PX h
  unfold sp_put at h
  split at h
  · obtain ⟨a, rfl, g0⟩ := heapK_of h
    obtain ⟨b, rfl, h1, hl, q⟩ := heapK_of g0
    have hh : (a ++ b).find? (fun y => decide (y < 1)) = none := List.find?_eq_none.mpr fun x hx => by have := h1 x hx; simp; omega
    walk_at "go"
    refine ⟨fun x hx => absurd (hh.symm.trans hx) (by simp), fun _ => ?_⟩
    walk_at "go"
    exact q
  · exact h.elim

/- 0:sided 1:side 2:one 3:other -/
def b_sides_of_r1 : DS := (dRaise 7)
def b_sides_of_r2 : DS := (dSeq (dIf (dBl (dOp eqD (dVar 1) (dC (.int 2)))) (dRet (dTup (dCons (dFrz (dVar 3)) (dCons (dFrz (dVar 2)) dNil)))) dNext) b_sides_of_r1)
def b_sides_of : DS := (dSeq (dAsgT (dFrz (dMeth sp_Beside_rules (dVar 0))) (dgTup [(dgName 2), (dgName 3)])) (dSeq (dIf (dBl (dOp eqD (dVar 1) (dC (.int 1)))) (dRet (dTup (dCons (dFrz (dVar 2)) (dCons (dFrz (dVar 3)) dNil)))) dNext) b_sides_of_r2))
theorem pf_sides_of : ∀ os PP PX, sp_sides_of os PP PX → b_sides_of (endsOf os PP PX) (rho0 4 os) := by
  intro os P PX hsp
  unfold sp_sides_of at hsp
  split at hsp
  · rename_i i
    obtain ⟨l, r, rfl, q⟩ := besK_of hsp
    rcases q with ⟨e, q⟩ | ⟨e, q⟩ | ⟨e, q⟩
    · subst e
      walk_at "go"
      exact q
    · subst e
      walk_at "go"
      exact q
    · walk_at "go"
      exact q
  · exact hsp.elim

/- 0:one 1:other 2:left 3:part -/
def b_taken_f1 : DS := (dExpr (dMu remF (dVar 2) (dCons (dFrz (dVar 3)) dNil)))
def b_taken_r1 : DS := (dRet (dCB tupleF (dCons (dVar 2) dNil)))
def b_taken_r2 : DS := (dSeq (dSet 2 (dCB listF (dCons (dVar 1) dNil))) (dSeq (dFor (dIt (dFrz (dVar 0))) (dgName 3) b_taken_f1) b_taken_r1))
def b_taken : DS := (dSeq (dIf (dNotT (dTru (dCall sp_lies_in (dCons (dFrz (dVar 0)) (dCons (dFrz (dVar 1)) dNil))))) (dRaise 2) dNext) b_taken_r2)
theorem pf_taken : ∀ os PP PX, sp_taken os PP PX → b_taken (endsOf os PP PX) (rho0 4 os) := by
  intro os P PX h
  unfold sp_taken at h
  split at h
  · obtain ⟨a, rfl, g0⟩ := heapK_of h
    obtain ⟨b, rfl, hl, q1, q2⟩ := heapK_of g0
    walk_at "go"
    walk_at "br"
    · intro e
      walk_at "go"
      exact q2 e
    · intro e
      have q := q1 e
      have hc := liesIn_iff.mp e
      walk_at "go"
      (try (walk_at "nv")); refine forGo_ind PyData.int (fun r ρ => ∃ (l : Heap1) (ds : List D) (o : Option S), ds = l.map PyData.int ∧ ρ = [some (.d (hD a)), some (.d (hD b)), some (.own (.lst ds)), o] ∧ takeOff r l = takeOff a b ∧ ∀ x, r.count x ≤ l.count x) (fun x r ρ K hK hi => ?_) (fun ρ hi => ?_) a _ ⟨b, _, _, rfl, rfl, rfl, hc⟩
      · obtain ⟨l, ds, o, rfl, rfl, h1, h2⟩ := hi
        have hx : x ∈ l := List.count_pos_iff.mp (by have := h2 x; rw [List.count_cons_self] at this; omega)
        walk_at "go"
        refine hK _ ⟨_, _, _, rfl, rfl, h1, fun y => ?_⟩
        have := h2 y
        rw [List.count_cons] at this
        rw [List.count_erase]
        omega
      · obtain ⟨l, ds, o, rfl, rfl, h1, h2⟩ := hi
        have h1 : l = takeOff a b := h1
        subst h1
        walk_at "go"
        exact q
  · exact h.elim

/- 0:sided 1:place 2:side 3:heap 4:choice 5:rule 6:other 7:left -/
def b_crossed_r1 : DS := (dSeq (dExpr (dCall sp_held_pair (dCons (dFrz (dVar 5)) (dCons (dTup (dCons (dFrz (dVar 3)) (dCons (dFrz (dVar 4)) dNil))) dNil)))) (dSeq (dSet 7 (dCall sp_taken (dCons (dFrz (dCall sp_joined_of (dCons (dFrz (dVar 5)) (dCons (dFrz (dVar 4)) dNil)))) (dCons (dFrz (dVar 3)) dNil)))) (dRet (dTup (dCons (dFrz (dOp subD (dC (.int 3)) (dVar 2))) (dCons (dFrz (dCall sp_put (dCons (dFrz (dCall sp_joined_of (dCons (dFrz (dVar 6)) (dCons (dFrz (dVar 4)) dNil)))) (dCons (dFrz (dVar 7)) dNil)))) (dCons (dFrz (dVar 4)) dNil)))))))
def b_crossed : DS := (dSeq (dAsgT (dFrz (dVar 1)) (dgTup [(dgName 2), (dgName 3), (dgName 4)])) (dSeq (dAsgT (dFrz (dCall sp_sides_of (dCons (dFrz (dVar 0)) (dCons (dFrz (dVar 2)) dNil)))) (dgTup [(dgName 5), (dgName 6)])) (stp b_crossed_r1)))
theorem pf_crossed : ∀ os PP PX, sp_crossed os PP PX → b_crossed (endsOf os PP PX) (rho0 8 os) := by
  intro os P PX hsp
  unfold sp_crossed at hsp
  split at hsp
  · obtain ⟨a, b, rfl, g0⟩ := besR_of hsp
    obtain ⟨⟨i, h, c⟩, rfl, M, hh, hl, q1, q2⟩ := plK_of g0
    by_cases hs : i = 1 ∨ i = 2
    · have ko := (own_any M i).okJ (by decide)
      have ks := (own_any M i).symm.okJ (by decide)
      have o6 := (own_any M i).most
      have key : (isPlB a b (i, h, c) = isPairB (ownR a b i) (h, c)) := by
        unfold isPlB
        rcases hs with z | z <;> rw [z] <;> rfl
      have go : ∀ o7 : Option S, b_crossed_r1 (endsOf [S.d (besD (rD a) (rD b)), S.d (plD (i, h, c))] P PX) [some (.d (besD (rD a) (rD b))), some (.d (plD (i, h, c))), some (.d (.int i)), some (.d (hD h)), some (.d (hD c)), some (.d (rD (ownR a b i))), some (.d (rD (othR a b i))), o7] := by
        intro o7
        cases e : isPairB (ownR a b i) (h, c) with
        | false =>
          have q := q2 (key.trans e)
          walk_at "go"
          exact q
        | true =>
          have q := q1 (key.trans e)
          have P0 := isPair_iff.mp e
          have ix := P0.at'
          have cl := pair_short P0
          have cl2 : c.length ≤ 1000 := by omega
          have li := liesIn_iff.mpr (pair_join P0)
          have hol := oth_len (p := (i, h, c)) M
          have hol : (othR a b i).length = (ownR a b i).length := hol
          have ix2 : okC (othR a b i).length c := fun j hj => by rw [hol]; exact ix j hj
          have hl : h.length ≤ 2000 := hl
          have jl := join_short (own_any M i).symm ix2
          have tl := (takeOff_sub (joinL (pickC (ownR a b i) c)) h).length_le
          have jp := pick_pos (own_any M i).symm ix2
          have tp : ∀ x ∈ joinL (pickC (othR a b i) c) ++ takeOff (joinL (pickC (ownR a b i) c)) h, 1 ≤ x := fun x hx => by
            rcases List.mem_append.mp hx with hx | hx
            · exact jp x hx
            · exact hh.2 x ((takeOff_sub _ _).subset hx)
          have bl : (joinL (pickC (othR a b i) c)).length + (takeOff (joinL (pickC (ownR a b i) c)) h).length ≤ 4000 := by omega
          walk_at "go"
          exact q
      rcases hs with z | z
      · subst z
        walk_at "go"
        refine .inl ⟨rfl, ?_⟩
        walk_at "go"
        (try (walk_at "nv")); exact stp_in (go _)
      · subst z
        walk_at "go"
        refine .inr (.inl ⟨rfl, ?_⟩)
        walk_at "go"
        (try (walk_at "nv")); exact stp_in (go _)
    · have q := q2 (Bool.eq_false_iff.mpr fun z => hs (isPl_iff.mp z).side)
      have h1 : i ≠ 1 := fun z => hs (.inl z)
      have h2 : i ≠ 2 := fun z => hs (.inr z)
      walk_at "go"
      refine .inr (.inr ⟨⟨h1, h2⟩, ?_⟩)
      walk_at "go"
      exact q
  · exact hsp.elim

/- 0:rule 1:heap -/
def b_keeps : DS := (dRet (dOp isD (dCall sp_first_in (dCons (dFrz (dVar 0)) (dCons (dFrz (dVar 1)) dNil))) (dC .none)))
theorem pf_keeps : ∀ os PP PX, sp_keeps os PP PX → b_keeps (endsOf os PP PX) (rho0 2 os) := by
  intro os P PX hsp
  unfold sp_keeps at hsp
  split at hsp
  · obtain ⟨r, rfl, g0⟩ := ruleK_of hsp
    obtain ⟨h, rfl, q⟩ := heapK_of g0
    have hk := keepB_first r h
    rw [hk] at q
    cases e : firstN r h with
    | none => rw [e] at q; walk_at "go"; rw [e]; walk_at "go"; exact q
    | some i => rw [e] at q; walk_at "go"; rw [e]; walk_at "go"; exact q
  · exact hsp.elim

/- 0:rule 1:pair 2:heap 3:choice 4:first 5:number -/
def b_partner_of_t1 : DT := (dBl (dOp neD (dVar 5) (dVar 4)))
def b_partner_of_e1 : DE := (dFrz (dVar 5))
def b_partner_of_r1 : DS := (dRet (dTup (dCons (dFrz (dVar 2)) (dCons (dCB tupleF (dCons (dCB sortF (dCons (dOp addD (dVar 3) (dTup (dCons (dFrz (dVar 4)) dNil))) dNil)) dNil)) dNil))))
def b_partner_of_r2 : DS := (dSeq (dIf (dBl (dOp inD (dVar 4) (dVar 3))) (dRet (dTup (dCons (dFrz (dVar 2)) (dCons (dCB tupleF (dCons (dComp (dIt (dFrz (dVar 3))) (dgName 5) b_partner_of_t1 b_partner_of_e1 [5]) dNil)) dNil)))) dNext) (stp b_partner_of_r1))
def b_partner_of : DS := (dSeq (dAsgT (dFrz (dCall sp_held_pair (dCons (dFrz (dVar 0)) (dCons (dFrz (dVar 1)) dNil)))) (dgTup [(dgName 2), (dgName 3)])) (dSeq (dSet 4 (dCall sp_first_in (dCons (dFrz (dVar 0)) (dCons (dFrz (dVar 2)) dNil)))) (dSeq (dIf (dBl (dOp isD (dVar 4) (dC .none))) (dRet (dC .none)) dNext) (stp b_partner_of_r2))))
theorem partL_at {r : List Heap1} {p : Heap1 × Heap1} {j : Nat} (e : firstN r p.1 = some j) : partL r p = some (p.1, flip1 (j : Int) p.2) := by unfold partL; rw [e]; rfl
theorem partL_no {r : List Heap1} {p : Heap1 × Heap1} (e : firstN r p.1 = none) : partL r p = none := by unfold partL; rw [e]; rfl
theorem pf_partner_of : ∀ os PP PX, sp_partner_of os PP PX → b_partner_of (endsOf os PP PX) (rho0 6 os) := by
  intro os P PX hsp
  unfold sp_partner_of at hsp
  split at hsp
  · obtain ⟨r, rfl, g0⟩ := ruleK_of hsp
    obtain ⟨⟨h, c⟩, rfl, hl, hcl, q1, q2⟩ := prK_of g0
    cases e : isPairB r (h, c) with
    | false =>
      have q := q2 e
      walk_at "go"
      exact q
    | true =>
      have q := q1 e
      walk_at "go"
      cases hf : firstN r h with
      | none =>
        rw [partL_no hf] at q
        walk_at "go"
        exact q
      | some j =>
        rw [partL_at (p := (h, c)) hf] at q
        walk_at "go"
        refine stp_in ?_
        walk_at "go"
        walk_at "br"
        · intro hm
          have e9 : flip1 (j : Int) c = c.filter fun x => decide (x ≠ (j : Int)) := if_pos hm
          walk_at "go"
          (try (walk_at "nv")); refine compGo_keep PyData.int (fun x => decide (x ≠ (j : Int))) (fun x hx acc K h1 h2 => ?_) ?_
          · walk_at "go"
            walk_at "br"
            · intro e2
              walk_at "go"
              exact h1 (decide_eq_true e2)
            · intro e2
              walk_at "go"
              exact h2 (decide_eq_false (by simpa using e2))
          · rw [← e9]
            walk_at "go"
            exact q
        · intro hm
          have e9 : flip1 (j : Int) c = srt (c ++ [(j : Int)]) := if_neg hm
          rw [e9] at q
          walk_at "go"
          refine stp_in ?_
          walk_at "go"
          refine ⟨by simp only [List.length_map, List.length_cons, List.length_nil]; exact Nat.le_trans (Nat.add_le_add_right hcl 1) (by decide), ?_⟩
          walk_at "go"
          refine intsK_mk (c ++ [(j : Int)]) (by simp [optI]) ?_
          walk_at "go"
          exact q
  · exact hsp.elim

/- 0:sided 1:place 2:side 3:heap 4:choice 5:partner -/
def b_toggled_r1 : DS := (dRet (dTup (dCons (dFrz (dVar 2)) (dCons (dFrz (dOp ixD (dVar 5) (dC (.int 0)))) (dCons (dFrz (dOp ixD (dVar 5) (dC (.int 1)))) dNil)))))
def b_toggled : DS := (dSeq (dAsgT (dFrz (dVar 1)) (dgTup [(dgName 2), (dgName 3), (dgName 4)])) (dSeq (dSet 5 (dCall sp_partner_of (dCons (dFrz (dOp ixD (dCall sp_sides_of (dCons (dFrz (dVar 0)) (dCons (dFrz (dVar 2)) dNil))) (dC (.int 0)))) (dCons (dTup (dCons (dFrz (dVar 3)) (dCons (dFrz (dVar 4)) dNil))) dNil)))) (dSeq (dIf (dBl (dOp isD (dVar 5) (dC .none))) (dRaise 8) dNext) b_toggled_r1)))
theorem pf_toggled : ∀ os PP PX, sp_toggled os PP PX → b_toggled (endsOf os PP PX) (rho0 6 os) := by
  intro os P PX hsp
  unfold sp_toggled at hsp
  split at hsp
  · obtain ⟨a, b, rfl, g0⟩ := besR_of hsp
    obtain ⟨⟨i, h, c⟩, rfl, ha, hb, hc, q2, q1⟩ := plK_of g0
    have hc : c.length ≤ 100 := hc
    have hc' : c.length ≤ 1000 := by omega
    have ha' : a.length ≤ 1000 := by omega
    have hb' : b.length ≤ 1000 := by omega
    by_cases hs : i = 1 ∨ i = 2
    · have key : (isPlB a b (i, h, c) = isPairB (ownR a b i) (h, c)) := by
        unfold isPlB
        rcases hs with z | z <;> rw [z] <;> rfl
      have ko : (ownR a b i).length ≤ 1000 := by unfold ownR; split <;> omega
      have tg : togP a b (i, h, c) = (partL (ownR a b i) (h, c)).map fun q => (i, q.1, q.2) := rfl
      rcases hs with rfl | rfl
      · cases e : isPairB a (h, c) with
        | false =>
          have q := q1 (key.trans e)
          walk_at "go"
          refine (.inl ⟨rfl, ?_⟩)
          walk_at "go"
          exact q
        | true =>
          obtain ⟨q3, q4⟩ := q2 (key.trans e)
          cases hp : partL a (h, c) with
          | none =>
            have q := q4 (by rw [tg]; show ((partL a (h, c)).map _) = _; rw [hp]; rfl)
            walk_at "go"
            refine (.inl ⟨rfl, ?_⟩)
            walk_at "go"
            rw [hp]
            walk_at "go"
            exact q
          | some z =>
            have q := q3 (1, z.1, z.2) (by rw [tg]; show ((partL a (h, c)).map _) = _; rw [hp]; rfl)
            walk_at "go"
            refine (.inl ⟨rfl, ?_⟩)
            walk_at "go"
            rw [hp]
            walk_at "go"
            exact q
      · cases e : isPairB b (h, c) with
        | false =>
          have q := q1 (key.trans e)
          walk_at "go"
          refine (.inr (.inl ⟨rfl, ?_⟩))
          walk_at "go"
          exact q
        | true =>
          obtain ⟨q3, q4⟩ := q2 (key.trans e)
          cases hp : partL b (h, c) with
          | none =>
            have q := q4 (by rw [tg]; show ((partL b (h, c)).map _) = _; rw [hp]; rfl)
            walk_at "go"
            refine (.inr (.inl ⟨rfl, ?_⟩))
            walk_at "go"
            rw [hp]
            walk_at "go"
            exact q
          | some z =>
            have q := q3 (2, z.1, z.2) (by rw [tg]; show ((partL b (h, c)).map _) = _; rw [hp]; rfl)
            walk_at "go"
            refine (.inr (.inl ⟨rfl, ?_⟩))
            walk_at "go"
            rw [hp]
            walk_at "go"
            exact q
    · have q := q1 (Bool.eq_false_iff.mpr fun z => hs (isPl_iff.mp z).side)
      have h1 : i ≠ 1 := fun z => hs (.inl z)
      have h2 : i ≠ 2 := fun z => hs (.inr z)
      walk_at "go"
      refine .inr (.inr ⟨⟨h1, h2⟩, ?_⟩)
      walk_at "go"
      exact q
  · exact hsp.elim

/- 0:sided 1:place 2:toggle -/
def b_next_place_r1 : DS := (dRet (dCall sp_toggled (dCons (dFrz (dVar 0)) (dCons (dFrz (dVar 1)) dNil))))
def b_next_place_r2 : DS := (dSeq (dIf (dAndT (dBl (dOp eqD (dOp ixD (dVar 1) (dC (.int 0))) (dC (.int 2)))) (dTru (dCall sp_keeps (dCons (dFrz (dOp ixD (dMeth sp_Beside_rules (dVar 0)) (dC (.int 1)))) (dCons (dFrz (dOp ixD (dVar 1) (dC (.int 1)))) dNil))))) (dRet (dC .none)) dNext) (stp b_next_place_r1))
def b_next_place : DS := (dSeq (dIf (dNotT (dTru (dVar 2))) (dRet (dCall sp_crossed (dCons (dFrz (dVar 0)) (dCons (dFrz (dVar 1)) dNil)))) dNext) (stp b_next_place_r2))
theorem pf_next_place : ∀ os PP PX, sp_next_place os PP PX → b_next_place (endsOf os PP PX) (rho0 3 os) := by
  intro os P PX hsp
  unfold sp_next_place at hsp
  split at hsp
  · obtain ⟨a, b, rfl, g0⟩ := besR_of hsp
    obtain ⟨p, rfl, M, hh, hl, hp, q⟩ := plK_of g0
    walk_at "go"
    exact q
  · obtain ⟨a, b, rfl, g0⟩ := besR_of hsp
    obtain ⟨⟨i, h, c⟩, rfl, M, hp, h2, q⟩ := plK_of g0
    have P1 := isPl_iff.mp hp
    have h6 : a.length ≤ 6 := M.most
    have el := M.len
    have h6' : b.length ≤ 6 := by omega
    have cl := pair_short P1.pair
    have o6 := (own_any M i).most
    have cl6 : c.length ≤ 6 := Nat.le_trans cl o6
    have cl100 : c.length ≤ 100 := by omega
    have sd : i = 1 ∨ i = 2 := P1.side
    cases ht : togP a b (i, h, c) with
    | none =>
      rw [ht] at q
      have i2 : i = 2 := h2 ht
      subst i2
      have hf := tog_none_iff.mp ht
      have kb : keepB b h = true := by
        have hf : firstN b h = none := hf
        have := List.findIdx?_eq_none_iff.mp hf
        exact List.all_eq_true.mpr fun x hx => by rw [this x hx]; rfl
      walk_at "go"
      refine stp_in ?_
      walk_at "go"
      exact q
    | some z =>
      rw [ht] at q
      walk_at "go"
      refine stp_in ?_
      rcases sd with rfl | rfl
      · walk_at "go"
        refine stp_in ?_
        walk_at "go"
        refine And.intro (fun q1 h1 => ?_) (fun hn => by rw [ht] at hn; cases hn)
        rw [ht] at h1
        cases h1
        walk_at "go"
        exact q
      · have kb : keepB b h = false := by
          cases hk : keepB b h with
          | false => rfl
          | true =>
            have hf : firstN b h = none := List.findIdx?_eq_none_iff.mpr fun x hx => by
              have := List.all_eq_true.mp hk x hx
              simpa using this
            have := tog_none_iff (r := a) (s := b) (p := (2, h, c)) |>.mpr hf
            rw [ht] at this; cases this
        walk_at "go"
        refine stp_in ?_
        walk_at "go"
        refine And.intro (fun q1 h1 => ?_) (fun hn => by rw [ht] at hn; cases hn)
        rw [ht] at h1
        cases h1
        walk_at "go"
        exact q
  · exact hsp.elim

/- 0:sided 1:heap 2:most 3:rows 4:place -/
def b_walk_of_r1 : DS := (dSeq (dExpr (dMu appF (dVar 3) (dCons (dFrz (dVar 4)) dNil))) (dSet 4 (dCall sp_next_place (dCons (dFrz (dVar 0)) (dCons (dFrz (dVar 4)) (dCons (dOp eqD (dOp modD (dCB lenF (dCons (dVar 3) dNil)) (dC (.int 2))) (dC (.int 0))) dNil))))))
def b_walk_of_q1 : DT := (dBl (dOp isNotD (dVar 4) (dC .none)))
def b_walk_of_w1 : DS := (dSeq (dIf (dBl (dOp geD (dCB lenF (dCons (dVar 3) dNil)) (dVar 2))) (dRaiseF 20 ["place"] (dCons (dFrz (dOp ixD (dVar 3) (dUn negD (dC (.int 1))))) dNil)) dNext) (stp b_walk_of_r1))
def b_walk_of_r2 : DS := (dRet (dVar 3))
def b_walk_of_r3 : DS := (dSeq (dWhile b_walk_of_q1 b_walk_of_w1) (stp b_walk_of_r2))
def b_walk_of_r4 : DS := (dSeq (dSet 4 (dCall sp_next_place (dCons (dFrz (dVar 0)) (dCons (dFrz (dOp ixD (dVar 3) (dC (.int 0)))) (dCons (dC (.bool false)) dNil))))) (stp b_walk_of_r3))
def b_walk_of : DS := (dSeq (dExpr (dCall sp_held_keeper (dCons (dFrz (dVar 0)) (dCons (dFrz (dVar 1)) dNil)))) (dSeq (dSet 3 (dLst (dCons (dTup (dCons (dC (.int 1)) (dCons (dFrz (dVar 1)) (dCons (dTup dNil) dNil)))) dNil))) (stp b_walk_of_r4)))
inductive WO (a b : List Heap1) (h : Heap1) (L : Nat) : Nat → Rho → Prop
  | A (i : Nat) (pre : List Pl) (p : Pl) (hi : pre.length + 1 = i) (w : AtW a b h.sum i p) (e : rowsL a b L 1 (1, h, []) = pre ++ rowsL a b (L + 1 - i) i p) (hL : i ≤ L) : WO a b h L (L - i) [some (.d (besD (rD a) (rD b))), some (.d (hD h)), some (.d (.int (L : Int))), some (.own (.lst ((pre ++ [p]).map plD))), some (.d (opPl (stepR a b i p)))]
theorem walk_loop {a b : List Heap1} {h : Heap1} {L : Nat} {P : O → List S → Prop} {PX : Exn → List S → Prop} (M : Mates 6 a b) (hh : isHeap h) (hs : h.sum ≤ 2000) (h0 : 1 ≤ L) (h1 : L ≤ 100000)
    (q1 : decide ((rowsL a b L 1 (1, h, [])).length ≤ L) = true → P (.tmp (.lst ((rowsL a b L 1 (1, h, [])).map plD))) [.d (besD (rD a) (rD b)), .d (hD h), .d (.int (L : Int))])
    (q2 : decide ((rowsL a b L 1 (1, h, [])).length ≤ L) = false → PX ⟨20, [("place", plD ((rowsL a b L 1 (1, h, [])).getD (L - 1) (1, h, [])))]⟩ [.d (besD (rD a) (rD b)), .d (hD h), .d (.int (L : Int))]) :
    b_walk_of_r3 (endsOf [.d (besD (rD a) (rD b)), .d (hD h), .d (.int (L : Int))] P PX) [some (.d (besD (rD a) (rD b))), some (.d (hD h)), some (.d (.int (L : Int))), some (.own (.lst [plD (1, h, [])])), some (.d (plD (crossP a b (1, h, []))))] := by
  have w0 := start_wk (r := a) (s := b) hh
  have hs0 := (sum_ge hh.2).1
  rw [show ((h.sum.toNat : Nat) : Int) = h.sum by omega] at w0
  walk_at "go"
  (try (walk_at "nv")); refine dWhile_ind (WO a b h L) (L - 1) (.A 1 [] (1, h, []) rfl (.inl ⟨rfl, w0⟩) rfl h0) (fun m ρ K hK hw => ?_)
  cases hw with
  | A i pre p hi w e hL =>
    obtain ⟨pp, ph, ps⟩ := w.place M
    have l1 : ((pre ++ [p]).map plD).length = i := by simp; omega
    have pl := heap_len ph.2
    cases hst : stepR a b i p with
    | none =>
      have er : rowsL a b L 1 (1, h, []) = pre ++ [p] := by
        rw [e, show L + 1 - i = (L - i) + 1 by omega, rowsL, hst]
      have q := q1 (decide_eq_true (by rw [er]; simp; omega))
      rw [er] at q
      walk_at "go"
      refine stp_in ?_
      walk_at "go"
      exact q
    | some z =>
      by_cases hl : i = L
      · have er : rowsL a b L 1 (1, h, []) = pre ++ [p, z] := by
          rw [e, show L + 1 - i = 0 + 1 by omega, rowsL, hst]
          show pre ++ p :: rowsL a b 0 (i + 1) z = _
          rw [rowsL]
        have q := q2 (decide_eq_false (by rw [er]; simp; omega))
        rw [er, show L - 1 = pre.length by omega] at q
        have gl : (pre ++ [p, z]).getD pre.length (1, h, []) = p := by simp
        rw [gl] at q
        walk_at "go"
        refine getK_last (xs := pre ++ [p]) (by simp) ?_
        rw [show (pre ++ [p]).getLast (by simp) = p by simp]
        walk_at "go"
        exact q
      · have l2 : ((pre ++ [p]) ++ [z]).length = i + 1 := by simp; omega
        have w2 := w.next M hst
        obtain ⟨zp, zh, zs⟩ := w2.place M
        have zl := heap_len zh.2
        have zl2 : z.2.1.length ≤ 2000 := by omega
        have er : rowsL a b L 1 (1, h, []) = (pre ++ [p]) ++ rowsL a b (L + 1 - (i + 1)) (i + 1) z := by
          rw [e, show L + 1 - i = (L + 1 - (i + 1)) + 1 by omega, rowsL, hst]
          simp
        have nx := hK (L - (i + 1)) _ (by omega) (.A (i + 1) (pre ++ [p]) z (by simp; omega) w2 er (by omega))
        have ip := isPl_iff.mpr zp
        walk_at "go"
        refine stp_in ?_
        have em : (((pre ++ [p]).map plD ++ [opPl (some z)]).length : Int) % 2 = ((i + 1 : Nat) : Int) % 2 := by
          rw [List.length_append, List.length_map, List.length_cons, List.length_nil]
          simp only [List.length_append, List.length_cons, List.length_nil] at l2 ⊢
          omega
        by_cases hp : (i + 1) % 2 = 1
        · rw [stepR, if_pos hp] at nx
          rw [List.map_append] at nx
          walk_at "go"
          rw [eqv_I, em, show decide (((i + 1 : Nat) : Int) % 2 = 0) = false from decide_eq_false (by omega)]
          walk_at "go"
          exact nx
        · rw [stepR, if_neg hp] at nx
          have st : togP a b z = none → z.1 = 2 := fun z0 => by
            have sn : stepR a b (i + 1) z = none := by rw [stepR, if_neg hp]; exact z0
            exact (w2.stop M sn).2.1
          rw [List.map_append] at nx
          walk_at "go"
          rw [eqv_I, em, show decide (((i + 1 : Nat) : Int) % 2 = 0) = true from decide_eq_true (by omega)]
          walk_at "go"
          exact nx
theorem pf_walk_of : ∀ os PP PX, sp_walk_of os PP PX → b_walk_of (endsOf os PP PX) (rho0 5 os) := by
  intro os P PX hsp
  unfold sp_walk_of at hsp
  split at hsp
  · rename_i L
    obtain ⟨a, b, rfl, g0⟩ := besR_of hsp
    obtain ⟨h, rfl, M, hh, hs, L0, L1, q⟩ := heapK_of g0
    obtain ⟨L, rfl⟩ : ∃ m : Nat, L = (m : Int) := ⟨L.toNat, by omega⟩
    rw [Int.toNat_natCast] at q
    cases hf : firstN a h with
    | some j =>
      rw [hf] at q
      walk_at "go"
      rw [hf]
      walk_at "go"
      exact q
    | none =>
      rw [hf] at q
      obtain ⟨q1, q2⟩ := q
      have hl := heap_len hh.2
      have hl5 : h.length ≤ 2000 := by omega
      have hp : isPlB a b (1, h, []) = true := isPl_iff.mpr (start_wk hh).pl
      walk_at "go"
      rw [hf]
      walk_at "go"
      refine stp_in ?_
      walk_at "go"
      refine plK_in2 (i := 1) (h := h) (c := []) ?_
      walk_at "go"
      refine stp_in ?_
      exact walk_loop M hh hs (by omega) (by omega) q1 q2
  · exact hsp.elim

/- 0:_law_sided 1:_law_heap_here 2:_law_told_here 3:e -/
def b__law_told_x1 : DS := (dSet 2 (dTup (dCons (dFrz (dFld [18] "number" (dVar 3))) (dCons (dC (.int 0)) dNil))))
def b__law_told_x2 : DS := (dSet 2 (dTup (dCons (dFrz (dFld [20] "place" (dVar 3))) (dCons (dC (.int 400)) dNil))))
def b__law_told_r1 : DS := (dRet (dVar 2))
def b__law_told : DS := (dSeq (dSet 2 (dC .none)) (dSeq (dTry [0, 2, 7, 8, 9, 17, 18, 19, 20] (dSet 2 (dCall sp_walk_of (dCons (dFrz (dVar 0)) (dCons (dFrz (dVar 1)) (dCons (dC (.int 400)) dNil))))) [(20, some 3, b__law_told_x2), (18, some 3, b__law_told_x1)] dNext) b__law_told_r1))
theorem pf__law_told : ∀ os PP PX, sp__law_told os PP PX → b__law_told (endsOf os PP PX) (rho0 4 os) := by
  intro os P PX hsp
  unfold sp__law_told at hsp
  split at hsp
  · obtain ⟨a, b, rfl, g0⟩ := besR_of hsp
    obtain ⟨h, rfl, M, hh, hs, q⟩ := heapK_of g0
    unfold toldW at q
    cases hf : firstN a h with
    | some j =>
      rw [hf] at q
      walk_at "go"
      rw [hf]
      walk_at "go"
      exact q
    | none =>
      rw [hf] at q
      by_cases hl : (rowsL a b 400 1 (1, h, [])).length ≤ 400
      · have hd : decide ((rowsL a b (Int.toNat 400) 1 (1, h, [])).length ≤ Int.toNat 400) = true := decide_eq_true hl
        rw [if_pos hl] at q
        walk_at "go"
        rw [hf]
        walk_at "go"
        exact q
      · have hd : decide ((rowsL a b (Int.toNat 400) 1 (1, h, [])).length ≤ Int.toNat 400) = false := decide_eq_false hl
        rw [if_neg hl] at q
        walk_at "go"
        rw [hf]
        walk_at "go"
        exact q
  · exact hsp.elim

/- 0:_law_left 1:_law_right 2:_law_split 3:_law_levels 4:_law_base 5:_law_by 6:_law_ones 7:_law_others 8:_law_level -/
def b__law_lane_q1 : DT := (dAndT (dBl (dOp eqD (dOp modD (dVar 0) (dVar 5)) (dC (.int 0)))) (dBl (dOp eqD (dOp modD (dVar 1) (dVar 5)) (dC (.int 0)))))
def b__law_lane_w1 : DS := (dSeq (dSet 0 (dOp fdivD (dVar 0) (dVar 5))) (dSeq (dSet 1 (dOp fdivD (dVar 1) (dVar 5))) (dSet 4 (dOp fdivD (dVar 4) (dVar 5)))))
def b__law_lane_f1 : DS := (dWhile b__law_lane_q1 b__law_lane_w1)
def b__law_lane_f2 : DS := (dIf (dTru (dVar 2)) (dSeq (dExpr (dMu appF (dVar 6) (dCons (dFrz (dOp mulD (dLst (dCons (dFrz (dVar 0)) dNil)) (dVar 8))) dNil))) (dExpr (dMu appF (dVar 7) (dCons (dFrz (dSl (dOp addD (dLst (dCons (dFrz (dVar 0)) dNil)) (dOp mulD (dLst (dCons (dFrz (dVar 1)) dNil)) (dOp fdivD (dVar 0) (dVar 1)))) dNoPart (dPart (dOp ixD (dLst (dCons (dC (.int 0)) (dCons (dC (.int 1)) (dCons (dFrz (dOp addD (dC (.int 1)) (dOp fdivD (dVar 0) (dVar 1)))) dNil)))) (dVar 8))))) dNil)))) (dSeq (dExpr (dMu appF (dVar 6) (dCons (dFrz (dOp mulD (dLst (dCons (dFrz (dVar 0)) dNil)) (dOp mulD (dVar 8) (dOp fdivD (dVar 4) (dVar 0))))) dNil))) (dExpr (dMu appF (dVar 7) (dCons (dFrz (dOp mulD (dLst (dCons (dFrz (dVar 1)) dNil)) (dOp mulD (dVar 8) (dOp fdivD (dVar 4) (dVar 1))))) dNil)))))
def b__law_lane_r1 : DS := (dRet (dTup (dCons (dFrz (dVar 6)) (dCons (dFrz (dVar 7)) dNil))))
def b__law_lane_r2 : DS := (dSeq (dPar [0, 1] (dCons (dFrz (dOp fdivD (dVar 4) (dVar 1))) (dCons (dFrz (dOp fdivD (dVar 4) (dVar 0))) dNil))) (dSeq (dSet 6 (dLst dNil)) (dSeq (dSet 7 (dLst dNil)) (dSeq (dFor (dIt (dFrz (dVar 3))) (dgName 8) b__law_lane_f2) (stp b__law_lane_r1)))))
def b__law_lane : DS := (dSeq (dSet 4 (dOp mulD (dVar 0) (dVar 1))) (dSeq (dFor (dItR2 (dCons (dC (.int 2)) (dCons (dC (.int 9)) dNil))) (dgName 5) b__law_lane_f1) (stp b__law_lane_r2)))
theorem lane_r2 (l r : Int) (s : Bool) (ns : List Int) (P : O → List S → Prop) (PX : Exn → List S → Prop) (os : List S) (a b g B : Int) (o5 : Option S) (hos : os = [.d (.int l), .d (.int r), .d (.bool s), .d (.list (ns.map PyData.int))])
    (hl : 1 ≤ l ∧ l ≤ 8) (hr : 1 ≤ r ∧ r ≤ 8) (hn : ns.length ≤ 6) (hv : ∀ x ∈ ns, 0 ≤ x ∧ x < 3) (hs : s = true → l % r = 0 ∧ r < l)
    (q : ∀ f g, LaneP l r s f g → P (.d (.tuple [.list ((ns.map fun x => f x.toNat).map lD), .list ((ns.map fun x => g x.toNat).map lD)])) os)
    (ha : 1 ≤ a) (hb : 1 ≤ b) (hg : 1 ≤ g) (el : a * g = l) (er : b * g = r) (eB : B = a * b * g) :
    b__law_lane_r2 (endsOf os P PX) [some (.d (.int a)), some (.d (.int b)), some (.d (.bool s)), some (.d (.list (ns.map PyData.int))), some (.d (.int B)), o5, none, none, none] := by
  subst hos
  have a8 : a ≤ 8 := by
    have := Int.mul_le_mul_of_nonneg_left hg (show 0 ≤ a by omega)
    omega
  have b8 : b ≤ 8 := by
    have := Int.mul_le_mul_of_nonneg_left hg (show 0 ≤ b by omega)
    omega
  have d1 : B / b = l := by rw [eB, Int.mul_right_comm, Int.mul_ediv_cancel _ (by omega), el]
  have d2 : B / a = r := by rw [eB, Int.mul_assoc, Int.mul_ediv_cancel_left _ (by omega), er]
  have d3 : B / l = b := by
    have : B = b * l := by rw [eB, ← el, Int.mul_comm a b, Int.mul_assoc]
    rw [this, Int.mul_ediv_cancel _ (by omega)]
  have d4 : B / r = a := by
    have : B = a * r := by rw [eB, ← er, Int.mul_assoc]
    rw [this, Int.mul_ediv_cancel _ (by omega)]
  have f1 := fdOk (j := a) (by omega) (by omega)
  have f2 := fdOk (j := b) (by omega) (by omega)
  have f3 := fdOk (j := l) (by omega) (by omega)
  have f4 := fdOk (j := r) (by omega) (by omega)
  walk_at "go"
  rw [d1, d2]
  walk_at "go"
  cases s with
  | false =>
    have q := q _ _ (LaneP.plain hl hr ha hb hg el er)
    (try (walk_at "nv")); refine forGo_pre PyData.int (fun p ρ => ∃ o8 : Option S, ρ = [some (.d (.int l)), some (.d (.int r)), some (.d (.bool false)), some (.d (.list (ns.map PyData.int))), some (.d (.int B)), o5, some (.own (.lst ((p.map fun x => timesF b.toNat l x.toNat).map lD))), some (.own (.lst ((p.map fun x => timesF a.toNat r x.toNat).map lD))), o8]) (fun p x t ρ K e hK hi => ?_) (fun ρ hi => ?_) ⟨_, rfl⟩
    · obtain ⟨o8, rfl⟩ := hi
      have hx := hv x (by rw [e]; simp)
      have hpl : p.length + 1 ≤ ns.length := by rw [e]; simp
      have m1 : mulOk x b := mulOk_fig (by omega) (by omega) (by omega) (by omega)
      have m2 : mulOk x a := mulOk_fig (by omega) (by omega) (by omega) (by omega)
      have xb : x * b ≤ 16 := by
        have := Int.mul_le_mul (show x ≤ 2 by omega) b8 (by omega) (by omega)
        omega
      have xa : x * a ≤ 16 := by
        have := Int.mul_le_mul (show x ≤ 2 by omega) a8 (by omega) (by omega)
        omega
      have xb0 : 0 ≤ x * b := Int.mul_nonneg hx.1 (by omega)
      have xa0 : 0 ≤ x * a := Int.mul_nonneg hx.1 (by omega)
      have t1 : (x * b).toNat = x.toNat * b.toNat := Int.toNat_mul hx.1 (by omega)
      have t2 : (x * a).toNat = x.toNat * a.toNat := Int.toNat_mul hx.1 (by omega)
      rw [List.map_append, List.map_append, List.map_append, List.map_append] at hK
      walk_at "go"
      rw [d3]
      walk_at "go"
      rw [d4]
      walk_at "go"
      rw [rep_map, rep_map, t1, t2]
      exact hK _ ⟨_, rfl⟩
    · obtain ⟨o8, rfl⟩ := hi
      refine stp_in ?_
      walk_at "go"
      exact q
  | true =>
    obtain ⟨hd, hlt⟩ := hs rfl
    have q := q _ _ (LaneP.split hl hr hd hlt)
    have q0 : 0 ≤ l / r := Int.ediv_nonneg (by omega) (by omega)
    have q8 : l / r ≤ 8 := by
      have := Int.ediv_le_self r (show 0 ≤ l by omega)
      omega
    (try (walk_at "nv")); refine forGo_pre PyData.int (fun p ρ => ∃ o8 : Option S, ρ = [some (.d (.int l)), some (.d (.int r)), some (.d (.bool true)), some (.d (.list (ns.map PyData.int))), some (.d (.int B)), o5, some (.own (.lst ((p.map fun x => timesF 1 l x.toNat).map lD))), some (.own (.lst ((p.map fun x => splitF l r (l / r).toNat x.toNat).map lD))), o8]) (fun p x t ρ K e hK hi => ?_) (fun ρ hi => ?_) ⟨_, rfl⟩
    · obtain ⟨o8, rfl⟩ := hi
      have hx := hv x (by rw [e]; simp)
      have hpl : p.length + 1 ≤ ns.length := by rw [e]; simp
      rw [List.map_append, List.map_append, List.map_append, List.map_append] at hK
      have e10 : (1 + l / r).toNat = 1 + (l / r).toNat := by omega
      have e9 : [PyData.int l] ++ (List.replicate (l / r).toNat [PyData.int r]).flatten = (l :: List.replicate (l / r).toNat r).map PyData.int := by rw [rep_map]; rfl
      rcases (show x = 0 ∨ x = 1 ∨ x = 2 by omega) with rfl | rfl | rfl
      · walk_at "go"
        rw [e9, cutM_take _ _ (by omega), rep_map]
        exact hK _ ⟨_, rfl⟩
      · walk_at "go"
        rw [e9, cutM_take _ _ (by omega), rep_map]
        exact hK _ ⟨_, rfl⟩
      · walk_at "go"
        rw [e9, cutM_take _ _ (by omega), rep_map, e10]
        exact hK _ ⟨_, rfl⟩
    · obtain ⟨o8, rfl⟩ := hi
      refine stp_in ?_
      walk_at "go"
      exact q
theorem pf__law_lane : ∀ os PP PX, sp__law_lane os PP PX → b__law_lane (endsOf os PP PX) (rho0 9 os) := by
  intro os P PX hsp
  unfold sp__law_lane at hsp
  split at hsp
  · rename_i l r s ds
    obtain ⟨ns, rfl, hl, hr, hn, hv, hs, q⟩ := intsK_of hsp
    have m1 : mulOk l r := mulOk_fig (by omega) (by omega) (by omega) (by omega)
    walk_at "go"
    (try (walk_at "nv")); refine forGo_ind (fun i : Nat => PyData.int (2 + (i : Int))) (fun t ρ => ∃ (a b g B : Int) (o5 : Option S), ρ = [some (.d (.int a)), some (.d (.int b)), some (.d (.bool s)), some (.d (.list (ns.map PyData.int))), some (.d (.int B)), o5, none, none, none] ∧ 1 ≤ a ∧ 1 ≤ b ∧ 1 ≤ g ∧ a * g = l ∧ b * g = r ∧ B = a * b * g ∧ ∀ i ∈ t, i < 7) (fun x t ρ K hK hi => ?_) (fun ρ hi => ?_) (List.range 7) _ ⟨l, r, 1, l * r, _, rfl, by omega, by omega, by omega, by omega, by omega, by rw [Int.mul_one], fun i hi => List.mem_range.mp hi⟩
    · obtain ⟨a, b, g, B, o5, rfl, ha, hb, hg, el, er, eB, ht⟩ := hi
      have hx := ht x (by simp)
      have ht : ∀ i ∈ t, i < 7 := fun i hi => ht i (by simp [hi])
      walk_at "go"
      (try (walk_at "nv")); refine dWhile_ind (fun w ρ => ∃ (a b g B : Int), w = a.toNat ∧ ρ = [some (.d (.int a)), some (.d (.int b)), some (.d (.bool s)), some (.d (.list (ns.map PyData.int))), some (.d (.int B)), some (.d (.int (2 + (x : Int)))), none, none, none] ∧ 1 ≤ a ∧ 1 ≤ b ∧ 1 ≤ g ∧ a * g = l ∧ b * g = r ∧ B = a * b * g) a.toNat ⟨a, b, g, B, rfl, rfl, ha, hb, hg, el, er, eB⟩ fun w ρ K2 hK2 hi => ?_
      clear ha hb hg el er eB
      obtain ⟨a, b, g, B, hw, rfl, ha, hb, hg, el, er, eB⟩ := hi
      have fd := fdOk (j := 2 + (x : Int)) (by omega) (by omega)
      have stay : K [some (.d (.int a)), some (.d (.int b)), some (.d (.bool s)), some (.d (.list (ns.map PyData.int))), some (.d (.int B)), some (.d (.int (2 + (x : Int)))), none, none, none] := hK _ ⟨a, b, g, B, _, rfl, ha, hb, hg, el, er, eB, ht⟩
      walk_at "go"
      walk_at "br"
      · intro e1
        walk_at "go"
        walk_at "br"
        · intro e2
          generalize hy : 2 + (x : Int) = y at *
          obtain ⟨a2, rfl⟩ := Int.dvd_of_emod_eq_zero e1
          obtain ⟨b2, rfl⟩ := Int.dvd_of_emod_eq_zero e2
          have y0 : 2 ≤ y := by omega
          have c1 : y * a2 / y = a2 := Int.mul_ediv_cancel_left _ (by omega)
          have c2 : y * b2 / y = b2 := Int.mul_ediv_cancel_left _ (by omega)
          have c3 : B / y = a2 * b2 * (y * g) := by
            have : B = y * (a2 * b2 * (y * g)) := by
              rw [eB]
              ac_rfl
            rw [this, Int.mul_ediv_cancel_left _ (by omega)]
          have pos1 : ∀ z : Int, 1 ≤ y * z → 1 ≤ z := fun z hz => Classical.byContradiction fun hn => by
            have := Int.mul_le_mul_of_nonneg_left (show z ≤ 0 by omega) (show 0 ≤ y by omega)
            rw [Int.mul_zero] at this
            omega
          have a21 : 1 ≤ a2 := pos1 a2 ha
          have b21 : 1 ≤ b2 := pos1 b2 hb
          have lt : a2 < y * a2 := by
            have := Int.mul_le_mul_of_nonneg_right y0 (show 0 ≤ a2 by omega)
            omega
          walk_at "go"
          rw [c1, c2, c3]
          refine hK2 _ _ ?_ ⟨a2, b2, y * g, a2 * b2 * (y * g), rfl, rfl, a21, b21, ?_, ?_, ?_, rfl⟩
          · omega
          · have := Int.mul_le_mul y0 hg (by omega) (by omega)
            omega
          · rw [← el]; ac_rfl
          · rw [← er]; ac_rfl
        · intro e2
          walk_at "go"
          exact stay
      · intro e1
        walk_at "go"
        exact stay
    · obtain ⟨a, b, g, B, o5, rfl, ha, hb, hg, el, er, eB, ht⟩ := hi
      refine stp_in ?_
      exact lane_r2 l r s ns P PX _ a b g B o5 rfl hl hr hn hv hs q ha hb hg el er eB
  · exact hsp.elim

/- 0:_law_rows 1:_law_row -/
def b__law_rule_e1 : DE := (dCB tupleF (dCons (dCB sortRF (dCons (dVar 1) dNil)) dNil))
def b__law_rule : DS := (dRet (dCB tupleF (dCons (dComp (dIt (dFrz (dVar 0))) (dgName 1) dYes b__law_rule_e1 [1]) dNil)))
theorem pf__law_rule : ∀ os PP PX, sp__law_rule os PP PX → b__law_rule (endsOf os PP PX) (rho0 2 os) := by
  intro os P PX hsp
  unfold sp__law_rule at hsp
  split at hsp
  · obtain ⟨r, e, hr, q⟩ := llK_of hsp
    cases e
    have hr1 := hr.1
    walk_at "go"
    (try (walk_at "nv")); refine compGo_mapH lD (fun a => (srt a).reverse) (fun a ha acc K hK => ?_) ?_
    · have := hr.2 a ha
      walk_at "go"
      exact hK
    · walk_at "go"
      exact q
  · exact hsp.elim

/- 0:_law_state 1:_law_top 2:_law_many 3:_law_ones 4:_law_k 5:_law_others 6:_law_lefts 7:_law_rights 8:_law_lane_here 9:_law_left 10:_law_right 11:_law_split 12:_law_levels 13:_law_mine 14:_law_theirs 15:_law_heap_here 16:_law_more -/
def b__law_matched_e1 : DE := (dFrz (dLst dNil))
def b__law_matched_e2 : DE := (dCallM sp__law_draw (dCons (dVar 0) (dCons (dC (.int 3)) dNil)))
def b__law_matched_e3 : DE := (dFrz (dOp addD (dVar 15) (dVar 16)))
def b__law_matched_r1 : DS := (dSeq (dAsgT (dFrz (dCall sp__law_lane (dCons (dFrz (dVar 9)) (dCons (dFrz (dVar 10)) (dCons (dFrz (dVar 11)) (dCons (dFrz (dVar 12)) dNil)))))) (dgTup [(dgName 13), (dgName 14)])) (dSeq (dSet 3 (dComp (dItZ (dCons (dFrz (dVar 3)) (dCons (dFrz (dVar 13)) dNil))) (dgTup [(dgName 15), (dgName 16)]) dYes b__law_matched_e3 [15, 16])) (dSet 5 (dComp (dItZ (dCons (dFrz (dVar 5)) (dCons (dFrz (dVar 14)) dNil))) (dgTup [(dgName 15), (dgName 16)]) dYes b__law_matched_e3 [15, 16]))))
def b__law_matched_r2 : DS := (dSeq (dSet 12 (dComp (dItR1 (dCons (dVar 2) dNil)) (dgName 4) dYes b__law_matched_e2 [4])) (dIf (dAndT (dBl (dOp notInD (dVar 9) (dVar 6))) (dBl (dOp notInD (dVar 10) (dVar 7)))) (dSeq (dExpr (dMu appF (dVar 6) (dCons (dFrz (dVar 9)) dNil))) (dSeq (dExpr (dMu appF (dVar 7) (dCons (dFrz (dVar 10)) dNil))) (dSeq (dIf (dTru (dVar 11)) (dExpr (dMu appF (dVar 7) (dCons (dFrz (dVar 9)) dNil))) dNext) (stp b__law_matched_r1)))) dNext))
def b__law_matched_f1 : DS := (dSeq (dSet 9 (dOp addD (dC (.int 1)) (dCallM sp__law_draw (dCons (dVar 0) (dCons (dC (.int 8)) dNil))))) (dSeq (dSet 10 (dOp addD (dC (.int 1)) (dCallM sp__law_draw (dCons (dVar 0) (dCons (dC (.int 8)) dNil))))) (dSeq (dSet 11 (dAndV (dOp eqD (dCallM sp__law_draw (dCons (dVar 0) (dCons (dC (.int 3)) dNil))) (dC (.int 1))) (dAndV (dOp eqD (dOp modD (dVar 9) (dVar 10)) (dC (.int 0))) (dAndV (dOp gtD (dVar 9) (dVar 10)) (dOp notInD (dVar 9) (dVar 7)))))) (stp b__law_matched_r2))))
def b__law_matched_r3 : DS := (dRet (dTup (dCons (dFrz (dCall sp__law_rule (dCons (dFrz (dVar 3)) dNil))) (dCons (dFrz (dCall sp__law_rule (dCons (dFrz (dVar 5)) dNil))) dNil))))
def b__law_matched_r4 : DS := (dSeq (dIf (dBl (dOp eqD (dCallM sp__law_draw (dCons (dVar 0) (dCons (dC (.int 2)) dNil))) (dC (.int 1)))) (dPar [3, 5] (dCons (dFrz (dVar 5)) (dCons (dFrz (dVar 3)) dNil))) dNext) (stp b__law_matched_r3))
def b__law_matched : DS := (dSeq (dSet 2 (dCallM sp__law_draw (dCons (dVar 0) (dCons (dFrz (dOp addD (dVar 1) (dC (.int 1)))) dNil)))) (dSeq (dSet 3 (dComp (dItR1 (dCons (dVar 2) dNil)) (dgName 4) dYes b__law_matched_e1 [4])) (dSeq (dSet 5 (dComp (dItR1 (dCons (dVar 2) dNil)) (dgName 4) dYes b__law_matched_e1 [4])) (dSeq (dSet 6 (dLst dNil)) (dSeq (dSet 7 (dLst dNil)) (dSeq (dFor (dItR1 (dCons (dOp addD (dC (.int 1)) (dCallM sp__law_draw (dCons (dVar 0) (dCons (dC (.int 4)) dNil)))) dNil)) (dgName 8) b__law_matched_f1) (stp b__law_matched_r4)))))))
section
variable {E : DEnds} {a : Addr} {top m : Int} {ones others : List Heap1} {b : Nat} {l0 r0 : List Int} {o8 : Option S}
theorem matched_r1 (I : LaneI m.toNat b ones others l0 r0) {c : Nat} {l r : Int} {s : Bool} {v : List Int} (hb : b ≤ 64) (hm : 0 ≤ m ∧ m ≤ 6) (hl : 1 ≤ l ∧ l ≤ 8) (hr : 1 ≤ r ∧ r ≤ 8) (nl : l ∉ l0) (nr : r ∉ r0) (hs : s = true → (l % r = 0 ∧ r < l) ∧ l ∉ r0) (hvl : v.length = m.toNat) (hv : ∀ x ∈ v, 0 ≤ x ∧ x < 3) (o13 o14 : Option S) {d6 d7 : S}
    (q : ∀ ones' others' (o12 o13 o14 : Option S), LaneI m.toNat (b + 16) ones' others' (l0 ++ [l]) (r0 ++ (r :: if s then [l] else [])) → E.nx [some (.lent a (.st c)), some (.d (.int top)), some (.d (.int m)), some (.own (.lst (ones'.map lD))), none, some (.own (.lst (others'.map lD))), some d6, some d7, o8, some (.d (.int l)), some (.d (.int r)), some (.d (.bool s)), o12, o13, o14, none, none]) :
    b__law_matched_r1 E [some (.lent a (.st c)), some (.d (.int top)), some (.d (.int m)), some (.own (.lst (ones.map lD))), none, some (.own (.lst (others.map lD))), some d6, some d7, o8, some (.d (.int l)), some (.d (.int r)), some (.d (.bool s)), some (.own (.lst (v.map PyData.int))), o13, o14, none, none] := by
  have hs1 : s = true → l % r = 0 ∧ r < l := fun h => (hs h).1
  have hvl6 : v.length ≤ 6 := by omega
  have lo : ones.length = m.toNat := I.l1
  have lo2 : others.length = m.toNat := I.l2
  walk_at "go"
  intro f g L
  have J := I.lane L hvl hv hl hr nl nr (fun h => (hs h).2)
  have zl : (ones.zip (v.map fun x => f x.toNat)).length ≤ 6 := by rw [List.length_zip]; omega
  have zl2 : (others.zip (v.map fun x => g x.toNat)).length ≤ 6 := by rw [List.length_zip]; omega
  walk_at "go"
  rw [zip_lD]
  (try (walk_at "nv")); refine compGo_map (fun p : Heap1 × Heap1 => PyData.tuple [lD p.1, lD p.2]) (fun p => lD (p.1 ++ p.2)) (fun p hp acc K hK => ?_) ?_
  · have h1 := I.b1 _ (List.of_mem_zip hp).1
    have h2 : p.2.length ≤ 16 := by
      obtain ⟨x, hx, e⟩ := List.mem_map.mp (List.of_mem_zip hp).2
      have := hv x hx
      rw [← e]
      exact L.bf _ (by omega)
    rw [show lD (p.1 ++ p.2) = .list (p.1.map PyData.int ++ p.2.map PyData.int) from by rw [← List.map_append]] at hK
    walk_at "go"
    exact hK
  · rw [List.nil_append, zapp_map]
    walk_at "go"
    rw [zip_lD]
    (try (walk_at "nv")); refine compGo_map (fun p : Heap1 × Heap1 => PyData.tuple [lD p.1, lD p.2]) (fun p => lD (p.1 ++ p.2)) (fun p hp acc K hK => ?_) ?_
    · have h1 := I.b2 _ (List.of_mem_zip hp).1
      have h2 : p.2.length ≤ 16 := by
        obtain ⟨x, hx, e⟩ := List.mem_map.mp (List.of_mem_zip hp).2
        have := hv x hx
        rw [← e]
        exact L.bg _ (by omega)
      rw [show lD (p.1 ++ p.2) = .list (p.1.map PyData.int ++ p.2.map PyData.int) from by rw [← List.map_append]] at hK
      walk_at "go"
      exact hK
    · rw [List.nil_append, zapp_map]
      exact q _ _ _ _ _ J
theorem matched_r2 (I : LaneI m.toNat b ones others l0 r0) {c : Nat} {l r : Int} {s : Bool} (hb : b ≤ 64) (hm : 0 ≤ m ∧ m ≤ 6) (hl : 1 ≤ l ∧ l ≤ 8) (hr : 1 ≤ r ∧ r ≤ 8) (hs : s = true → (l % r = 0 ∧ r < l) ∧ l ∉ r0) (hc : c ≤ 10 ^ 14) (h0 : l0.length ≤ 100) (h1 : r0.length ≤ 100) (o12 o13 o14 : Option S)
    (q : ∀ ones' others' l0' r0' c' (o9 o10 o11 o12 o13 o14 : Option S), LaneI m.toNat (b + 16) ones' others' l0' r0' → l0'.length ≤ l0.length + 1 → r0'.length ≤ r0.length + 2 → c ≤ c' → c' ≤ c + 60 → E.nx [some (.lent a (.st c')), some (.d (.int top)), some (.d (.int m)), some (.own (.lst (ones'.map lD))), none, some (.own (.lst (others'.map lD))), some (.own (.lst (l0'.map PyData.int))), some (.own (.lst (r0'.map PyData.int))), o8, o9, o10, o11, o12, o13, o14, none, none]) :
    b__law_matched_r2 E [some (.lent a (.st c)), some (.d (.int top)), some (.d (.int m)), some (.own (.lst (ones.map lD))), none, some (.own (.lst (others.map lD))), some (.own (.lst (l0.map PyData.int))), some (.own (.lst (r0.map PyData.int))), o8, some (.d (.int l)), some (.d (.int r)), some (.d (.bool s)), o12, o13, o14, none, none] := by
  walk_at "go"
  (try (walk_at "nv")); refine compGo_draw (fun i : Nat => PyData.int (i : Int)) 8 (fun _ d => ∃ v : Int, d = .int v ∧ 0 ≤ v ∧ v < 3) (fun b1 => [some (.lent a (.st b1)), some (.d (.int top)), some (.d (.int m)), some (.own (.lst (ones.map lD))), none, some (.own (.lst (others.map lD))), some (.own (.lst (l0.map PyData.int))), some (.own (.lst (r0.map PyData.int))), o8, some (.d (.int l)), some (.d (.int r)), some (.d (.bool s)), o12, o13, o14, none, none]) (b0 := c) (fun x hx acc b1 K q1 q2 hK => ?_) (fun ds b2 hp q1 q2 => ?_)
  · rw [List.length_range] at q2
    walk_at "go"
    intro v v0 v1
    walk_at "go"
    exact hK _ _ ⟨v, rfl, v0, v1⟩ (by omega) (by omega)
  · rw [List.length_range] at q2
    obtain ⟨v, rfl, hvl, hv⟩ := paired_ints (S := fun v => 0 ≤ v ∧ v < 3) (fun x d h => h) hp
    rw [List.length_range] at hvl
    walk_at "go"
    walk_at "br"
    · intro nl
      walk_at "go"
      walk_at "br"
      · intro nr
        cases s with
        | false =>
          walk_at "go"
          have := fun ones' others' o12 o13 o14 J => q ones' others' (l0 ++ [l]) (r0 ++ [r]) b2 (some (.d (.int l))) (some (.d (.int r))) (some (.d (.bool false))) o12 o13 o14 J (by simp) (by simp) q1 (by omega)
          (try (walk_at "nv")); exact stp_in (matched_r1 I hb hm hl hr nl nr hs hvl hv _ _ (fun ones' others' o12 o13 o14 J => by
            have := this ones' others' o12 o13 o14 J
            rw [List.map_append, List.map_append] at this
            exact this))
        | true =>
          walk_at "go"
          have := fun ones' others' o12 o13 o14 J => q ones' others' (l0 ++ [l]) (r0 ++ [r, l]) b2 (some (.d (.int l))) (some (.d (.int r))) (some (.d (.bool true))) o12 o13 o14 J (by simp) (by simp) q1 (by omega)
          (try (walk_at "nv")); exact stp_in (matched_r1 I hb hm hl hr nl nr hs hvl hv _ _ (fun ones' others' o12 o13 o14 J => by
            have := this ones' others' o12 o13 o14 J
            rw [List.map_append, show (r0 ++ [r, l]).map PyData.int = r0.map PyData.int ++ [PyData.int r] ++ [PyData.int l] from by simp] at this
            exact this))
      · intro nr
        walk_at "go"
        exact q _ _ _ _ _ _ _ _ _ _ _ (I.weak (by omega)) (by omega) (by omega) q1 (by omega)
    · intro nl
      walk_at "go"
      exact q _ _ _ _ _ _ _ _ _ _ _ (I.weak (by omega)) (by omega) (by omega) q1 (by omega)
theorem matched_f1 (I : LaneI m.toNat b ones others l0 r0) {c : Nat} (hb : b ≤ 64) (hm : 0 ≤ m ∧ m ≤ 6) (hc : c ≤ 10 ^ 13 + 10000) (h0 : l0.length ≤ 100) (h1 : r0.length ≤ 100) (o9 o10 o11 o12 o13 o14 : Option S)
    (q : ∀ ones' others' l0' r0' c' (o9 o10 o11 o12 o13 o14 : Option S), LaneI m.toNat (b + 16) ones' others' l0' r0' → l0'.length ≤ l0.length + 1 → r0'.length ≤ r0.length + 2 → c ≤ c' → c' ≤ c + 100 → E.nx [some (.lent a (.st c')), some (.d (.int top)), some (.d (.int m)), some (.own (.lst (ones'.map lD))), none, some (.own (.lst (others'.map lD))), some (.own (.lst (l0'.map PyData.int))), some (.own (.lst (r0'.map PyData.int))), o8, o9, o10, o11, o12, o13, o14, none, none]) :
    b__law_matched_f1 E [some (.lent a (.st c)), some (.d (.int top)), some (.d (.int m)), some (.own (.lst (ones.map lD))), none, some (.own (.lst (others.map lD))), some (.own (.lst (l0.map PyData.int))), some (.own (.lst (r0.map PyData.int))), o8, o9, o10, o11, o12, o13, o14, none, none] := by
  walk_at "go"
  intro l l0' l1'
  walk_at "go"
  intro r r0' r1'
  walk_at "go"
  intro d d0 d1
  have fin : ∀ s : Bool, (s = true → ((1 + l) % (1 + r) = 0 ∧ 1 + r < 1 + l) ∧ (1 + l) ∉ r0) → b__law_matched_r2 E [some (.lent a (.st (c + 8 + 8 + 8))), some (.d (.int top)), some (.d (.int m)), some (.own (.lst (ones.map lD))), none, some (.own (.lst (others.map lD))), some (.own (.lst (l0.map PyData.int))), some (.own (.lst (r0.map PyData.int))), o8, some (.d (.int (1 + l))), some (.d (.int (1 + r))), some (.d (.bool s)), o12, o13, o14, none, none] := fun s hs =>
    matched_r2 I hb hm (by omega) (by omega) hs (by omega) h0 h1 _ _ _ fun ones' others' l0' r0' c' o9 o10 o11 o12 o13 o14 J g1 g2 g3 g4 => q _ _ _ _ _ _ _ _ _ _ _ J g1 g2 (by omega) (by omega)
  walk_at "go"
  walk_at "br"
  · intro e1
    walk_at "go"
    walk_at "br"
    · intro e2
      walk_at "go"
      walk_at "br"
      · intro e3
        walk_at "go"
        (try (walk_at "nv")); exact stp_in (fin _ fun h => ⟨⟨e2, by omega⟩, by simpa using h⟩)
      · intro e3
        walk_at "go"
        (try (walk_at "nv")); exact stp_in (fin false fun h => by cases h)
    · intro e2
      walk_at "go"
      (try (walk_at "nv")); exact stp_in (fin false fun h => by cases h)
  · intro e1
    walk_at "go"
    (try (walk_at "nv")); exact stp_in (fin false fun h => by cases h)
end
theorem pf__law_matched : ∀ os PP PX, sp__law_matched os PP PX → b__law_matched (endsOf os PP PX) (rho0 17 os) := by
  intro os P PX hsp
  unfold sp__law_matched at hsp
  split at hsp
  · rename_i a b top
    obtain ⟨hb, t0, t1, q⟩ := hsp
    walk_at "go"
    intro m m0 m1
    walk_at "go"
    (try (walk_at "nv")); refine compGo_map (fun i : Nat => PyData.int (i : Int)) (fun _ => lD []) (fun x hx acc K hK => ?_) ?_
    · walk_at "go"
      exact hK
    · rw [List.nil_append, start_rows]
      walk_at "go"
      (try (walk_at "nv")); refine compGo_map (fun i : Nat => PyData.int (i : Int)) (fun _ => lD []) (fun x hx acc K hK => ?_) ?_
      · walk_at "go"
        exact hK
      · rw [List.nil_append, start_rows]
        walk_at "go"
        intro lanes la0 la1
        walk_at "go"
        (try (walk_at "nv")); refine forGo_ind (fun i : Nat => PyData.int (i : Int)) (fun s ρ => ∃ (c j : Nat) (ones others : List Heap1) (l0 r0 : List Int) (o8 o9 o10 o11 o12 o13 o14 : Option S), ρ = [some (.lent a (.st c)), some (.d (.int top)), some (.d (.int m)), some (.own (.lst (ones.map lD))), none, some (.own (.lst (others.map lD))), some (.own (.lst (l0.map PyData.int))), some (.own (.lst (r0.map PyData.int))), o8, o9, o10, o11, o12, o13, o14, none, none] ∧ LaneI m.toNat (16 * j) ones others l0 r0 ∧ j + s.length ≤ 4 ∧ l0.length ≤ j ∧ r0.length ≤ 2 * j ∧ b ≤ c ∧ c + 100 * s.length ≤ b + 1000) (fun x s ρ K hK hi => ?_) (fun ρ hi => ?_) (List.range (1 + lanes).toNat) _ ⟨b + 8 + 8, 0, _, _, [], [], _, _, _, _, _, _, _, rfl, LaneI.start _, by rw [List.length_range]; omega, by simp, by simp, by omega, by rw [List.length_range]; omega⟩
        · obtain ⟨c, j, ones, others, l0, r0, o8, o9, o10, o11, o12, o13, o14, rfl, I, hj, g1, g2, g3, g4⟩ := hi
          rw [List.length_cons] at hj g4
          show b__law_matched_f1 _ [some (.lent a (.st c)), some (.d (.int top)), some (.d (.int m)), some (.own (.lst (ones.map lD))), none, some (.own (.lst (others.map lD))), some (.own (.lst (l0.map PyData.int))), some (.own (.lst (r0.map PyData.int))), some (.d (.int (x : Int))), o9, o10, o11, o12, o13, o14, none, none]
          exact matched_f1 I (by omega) ⟨by omega, by omega⟩ (by omega) (by omega) (by omega) _ _ _ _ _ _ fun ones' others' l0' r0' c' o9 o10 o11 o12 o13 o14 J k1 k2 k3 k4 => hK _ ⟨c', j + 1, ones', others', l0', r0', _, o9, o10, o11, o12, o13, o14, rfl, by rw [Nat.mul_add, Nat.mul_one]; exact J, by omega, by omega, by omega, by omega, by omega⟩
        · obtain ⟨c, j, ones, others, l0, r0, o8, o9, o10, o11, o12, o13, o14, rfl, I, hj, g1, g2, g3, g4⟩ := hi
          have M := I.done (n := top.toNat) (by simp at hj; omega) (by omega)
          have k1 : okJ ones := ⟨by have := I.l1; omega, fun h hh => by have := I.b1 h hh; simp at hj; omega⟩
          have k2 : okJ others := ⟨by have := I.l2; omega, fun h hh => by have := I.b2 h hh; simp at hj; omega⟩
          refine stp_in ?_
          walk_at "go"
          intro d d0 d1
          walk_at "go"
          walk_at "br"
          · intro e
            walk_at "go"
            refine stp_in ?_
            walk_at "go"
            exact q _ _ _ M.symm (by omega) (by simp at g4; omega)
          · intro e
            walk_at "go"
            refine stp_in ?_
            walk_at "go"
            exact q _ _ _ M (by omega) (by simp at g4; omega)
  · exact hsp.elim

/- 0:_law_state 1:_law_many 2:_law_size 3:_law_top 4:_law_k -/
def b__law_raw_rule_e1 : DE := (dFrz (dCallM sp__law_heap (dCons (dVar 0) (dCons (dFrz (dVar 2)) (dCons (dFrz (dVar 3)) dNil)))))
def b__law_raw_rule : DS := (dRet (dCB tupleF (dCons (dComp (dItR1 (dCons (dVar 1) dNil)) (dgName 4) dYes b__law_raw_rule_e1 [4]) dNil)))
theorem pf__law_raw_rule : ∀ os PP PX, sp__law_raw_rule os PP PX → b__law_raw_rule (endsOf os PP PX) (rho0 5 os) := by
  intro os P PX hsp
  unfold sp__law_raw_rule at hsp
  split at hsp
  · rename_i a b m n t
    obtain ⟨hb, m0, m1, n0, n1, t0, t1, q⟩ := hsp
    walk_at "go"
    (try (walk_at "nv")); refine compGo_draw (fun i : Nat => PyData.int (i : Int)) 9000 (fun _ d => ∃ h : Heap1, d = hD h ∧ (isHeap h ∧ (h.length : Int) ≤ n ∧ ∀ x ∈ h, x ≤ t)) (fun b => [some (.lent a (.st b)), some (.d (.int m)), some (.d (.int n)), some (.d (.int t)), none]) (fun x hx acc b1 K h1 h2 hK => ?_) (fun ds b2 hp h1 h2 => ?_)
    · rw [List.length_range] at h2
      have : 9000 * m.toNat ≤ 900000 := Nat.le_trans (Nat.mul_le_mul_left 9000 (show m.toNat ≤ 100 by omega)) (by decide)
      walk_at "go"
      intro h b2 g1 g2 g3 g4 g5
      exact hK _ _ ⟨h, rfl, g1, g2, g3⟩ (by omega) (by omega)
    · obtain ⟨r, rfl, hr⟩ := paired_rel (fun _ _ h => h) hp
      have hl := paired_len hr
      rw [List.length_range] at h2 hl
      have : 9000 * m.toNat ≤ 900000 := Nat.le_trans (Nat.mul_le_mul_left 9000 (show m.toNat ≤ 100 by omega)) (by decide)
      walk_at "go"
      exact q _ _ (by omega) (paired_all (S := fun h : Heap1 => isHeap h ∧ (h.length : Int) ≤ n ∧ ∀ x ∈ h, x ≤ t) (fun _ _ z => z) hr) (by omega) (by omega)
  · exact hsp.elim

/- 0:_law_state 1:_law_many 2:_law_one -/
def b__law_two_r1 : DS := (dRet (dTup (dCons (dFrz (dVar 2)) (dCons (dFrz (dCallM sp__law_raw_rule (dCons (dVar 0) (dCons (dFrz (dVar 1)) (dCons (dC (.int 3)) (dCons (dC (.int 3)) dNil)))))) dNil))))
def b__law_two_r2 : DS := (dSeq (dIf (dBl (dOp eqD (dCallM sp__law_draw (dCons (dVar 0) (dCons (dC (.int 2)) dNil))) (dC (.int 1)))) (dRet (dTup (dCons (dFrz (dVar 2)) (dCons (dFrz (dVar 2)) dNil)))) dNext) (stp b__law_two_r1))
def b__law_two_r3 : DS := (dSeq (dSet 1 (dCallM sp__law_draw (dCons (dVar 0) (dCons (dC (.int 4)) dNil)))) (dSeq (dSet 2 (dCallM sp__law_raw_rule (dCons (dVar 0) (dCons (dFrz (dVar 1)) (dCons (dC (.int 3)) (dCons (dC (.int 3)) dNil)))))) (stp b__law_two_r2)))
def b__law_two : DS := (dSeq (dIf (dBl (dOp gtD (dCallM sp__law_draw (dCons (dVar 0) (dCons (dC (.int 3)) dNil))) (dC (.int 0)))) (dRet (dCallM sp__law_matched (dCons (dVar 0) (dCons (dC (.int 6)) dNil)))) dNext) b__law_two_r3)
theorem pf__law_two : ∀ os PP PX, sp__law_two os PP PX → b__law_two (endsOf os PP PX) (rho0 3 os) := by
  intro os P PX hsp
  unfold sp__law_two at hsp
  split at hsp
  · rename_i a b
    obtain ⟨hb, q⟩ := hsp
    walk_at "go"
    intro k k0 k1
    walk_at "go"
    walk_at "br"
    · intro e
      walk_at "go"
      intro r s b' M b0 b1
      walk_at "go"
      exact q r s _ ⟨M.len, M.most, M.h1, M.h2⟩ (by omega) (by omega)
    · intro e
      walk_at "go"
      intro m m0 m1
      walk_at "go"
      intro r b' hl hr b0 b1
      have r1 : ∀ h ∈ r, isHeap h ∧ h.length ≤ 60 ∧ ∀ x ∈ h, x ≤ 64 := fun h hh => ⟨(hr h hh).1, by have := (hr h hh).2.1; omega, fun x hx => by have := (hr h hh).2.2 x hx; omega⟩
      walk_at "go"
      refine stp_in ?_
      walk_at "go"
      intro j j0 j1
      walk_at "go"
      walk_at "br"
      · intro e2
        walk_at "go"
        exact q r r _ ⟨rfl, by omega, r1, r1⟩ (by omega) (by omega)
      · intro e2
        walk_at "go"
        refine stp_in ?_
        walk_at "go"
        intro s b2 hl2 hs c0 c1
        walk_at "go"
        exact q r s _ ⟨by omega, by omega, r1, fun h hh => ⟨(hs h hh).1, by have := (hs h hh).2.1; omega, fun x hx => by have := (hs h hh).2.2 x hx; omega⟩⟩ (by omega) (by omega)
  · exact hsp.elim

/- 0:_law_rules 1:_law_heap_here 2:_law_limit 3:_law_rows 4:_law_further -/
def b__law_walk_r1 : DS := (dExpr (dMu appF (dVar 3) (dCons (dFrz (dVar 4)) dNil)))
def b__law_walk_q1 : DT := (dBl (dOp leD (dCB lenF (dCons (dVar 3) dNil)) (dVar 2)))
def b__law_walk_w1 : DS := (dIf (dBl (dOp eqD (dOp modD (dCB lenF (dCons (dVar 3) dNil)) (dC (.int 2))) (dC (.int 1)))) (dExpr (dMu appF (dVar 3) (dCons (dFrz (dCall sp__law_crossed (dCons (dFrz (dVar 0)) (dCons (dFrz (dOp ixD (dVar 3) (dUn negD (dC (.int 1))))) dNil)))) dNil))) (dSeq (dSet 4 (dCall sp__law_toggled (dCons (dFrz (dVar 0)) (dCons (dFrz (dOp ixD (dVar 3) (dUn negD (dC (.int 1))))) dNil)))) (dSeq (dIf (dBl (dOp isD (dVar 4) (dC .none))) (dRet (dVar 3)) dNext) (stp b__law_walk_r1))))
def b__law_walk_r2 : DS := (dRet (dVar 3))
def b__law_walk : DS := (dSeq (dSet 3 (dLst (dCons (dTup (dCons (dC (.int 1)) (dCons (dFrz (dVar 1)) (dCons (dTup dNil) dNil)))) dNil))) (dSeq (dWhile b__law_walk_q1 b__law_walk_w1) (stp b__law_walk_r2)))
structure WkI (a b : List Heap1) (h : Heap1) (p : Pl) : Prop where
  pl : PlP a b p
  heap : isHeap p.2.1
  sum : p.2.1.sum = h.sum
theorem WkI.stp {a b : List Heap1} {h : Heap1} {p q : Pl} {i : Nat} (M : Mates 6 a b) (w : WkI a b h p) (e : stepR a b i p = some q) : WkI a b h q := by
  unfold stepR at e
  split at e
  · cases e
    exact ⟨cross_place M w.pl, cross_heap M w.pl w.heap, (cross_sum M w.pl).trans w.sum⟩
  · obtain ⟨h1, h2, h3, h4, h5⟩ := tog_some w.pl e
    exact ⟨h1, by rw [h3]; exact w.heap, by rw [h3]; exact w.sum⟩
inductive LawW (a b : List Heap1) (h : Heap1) (L : Nat) : Nat → Rho → Prop
  | A (f : Nat) (pre : List Pl) (p : Pl) (o4 : Option S) (hf : pre.length + f = L) (e : rowsL a b L 1 (1, h, []) = pre ++ rowsL a b f (pre.length + 1) p) (w : WkI a b h p) : LawW a b h L f [some (.d (.tuple [rD a, rD b])), some (.d (hD h)), some (.d (.int (L : Int))), some (.own (.lst ((pre ++ [p]).map plD))), o4]
theorem pf__law_walk : ∀ os PP PX, sp__law_walk os PP PX → b__law_walk (endsOf os PP PX) (rho0 5 os) := by
  intro os P PX hsp
  unfold sp__law_walk at hsp
  split at hsp
  · rename_i L
    obtain ⟨a, b, rfl, g0⟩ := rrK_of hsp
    obtain ⟨h, rfl, M, hh, hs, L0, L1, q⟩ := heapK_of g0
    obtain ⟨n, rfl⟩ : ∃ n : Nat, L = (n : Int) := ⟨L.toNat, by omega⟩
    rw [Int.toNat_natCast] at q
    have w0 : WkI a b h (1, h, []) := ⟨(start_wk hh).pl, hh, rfl⟩
    walk_at "go"
    (try (walk_at "nv")); refine dWhile_ind (LawW a b h n) _ (.A n [] (1, h, []) none (by simp) rfl w0) (fun m ρ K hK hw => ?_)
    cases hw with
    | A pre p o4 hf e w =>
      have hl1 : ((pre ++ [p]).map plD).length = pre.length + 1 := by rw [List.length_map, List.length_append]; rfl
      have hp := isPl_iff.mpr w.pl
      have hhp := w.heap
      have h6 : a.length ≤ 6 := M.most
      have el := M.len
      have ka : a.length ≤ 1000 := by omega
      have kb : b.length ≤ 1000 := by omega
      have hl : p.2.1.length ≤ 500 := by
        have := heap_len w.heap.2
        have := w.sum
        omega
      walk_at "go"
      rw [hl1]
      walk_at "br"
      · intro e1
        obtain ⟨f, rfl⟩ : ∃ f, m = f + 1 := ⟨m - 1, by omega⟩
        have hne : pre ++ [p] ≠ [] := by simp
        have gl : (pre ++ [p]).getLast hne = p := by simp
        have ea : ∀ z : Pl, List.map plD (pre ++ [p]) ++ [plD z] = ((pre ++ [p]) ++ [z]).map plD := fun z => by simp
        have nx : ∀ (z : Pl) (o4 : Option S), stepR a b (pre.length + 1) p = some z → LawW a b h n f [some (.d (.tuple [rD a, rD b])), some (.d (hD h)), some (.d (.int (n : Int))), some (.own (.lst (List.map plD (pre ++ [p]) ++ [plD z]))), o4] := fun z o4 hz => by
          rw [ea]
          refine .A f (pre ++ [p]) z o4 (by simp; omega) ?_ (w.stp M hz)
          rw [e, rowsL, hz, List.length_append]
          simp
        have big : (List.map plD (pre ++ [p])).length ≤ 16000000 := by rw [hl1]; omega
        walk_at "go"
        rw [hl1]
        walk_at "br"
        · intro e2
          have hz : stepR a b (pre.length + 1) p = some (crossP a b p) := if_pos (by omega)
          walk_at "go"
          refine getK_last hne ?_
          rw [gl]
          walk_at "go"
          exact hK _ _ (by omega) (nx _ _ hz)
        · intro e2
          have hz : stepR a b (pre.length + 1) p = togP a b p := if_neg (by omega)
          have cl := pair_short w.pl.pair
          have o6 := (own_any M p.1).most
          have cl6 : p.2.2.length ≤ 6 := Nat.le_trans cl o6
          have cl100 : p.2.2.length ≤ 100 := by omega
          have sd := w.pl.side
          walk_at "go"
          refine getK_last hne ?_
          rw [gl]
          walk_at "go"
          cases ht : togP a b p with
          | none =>
            have e3 : rowsL a b n 1 (1, h, []) = pre ++ [p] := by rw [e, rowsL, hz, ht]
            rw [e3] at q
            walk_at "go"
            exact q
          | some z =>
            walk_at "go"
            refine stp_in ?_
            walk_at "go"
            exact hK _ _ (by omega) (nx z _ (hz.trans ht))
      · intro e1
        have hm : m = 0 := by omega
        subst hm
        have e3 : rowsL a b n 1 (1, h, []) = pre ++ [p] := by rw [e, rowsL]
        rw [e3] at q
        refine stp_in ?_
        walk_at "go"
        exact q
  · exact hsp.elim

/- 0:sided 1:rows 2:place 3:at 4:row -/
def b_is_walk_r1 : DS := (dIf (dBl (dOp isD (dVar 2) (dC .none))) (dRet (dOp eqD (dVar 3) (dCB lenF (dCons (dVar 1) dNil)))) dNext)
def b_is_walk_r2 : DS := (dSeq (dSet 2 (dCall sp_next_place (dCons (dFrz (dVar 0)) (dCons (dFrz (dVar 2)) (dCons (dOp eqD (dOp modD (dVar 3) (dC (.int 2))) (dC (.int 0))) dNil))))) (stp b_is_walk_r1))
def b_is_walk_f1 : DS := (dSeq (dIf (dBl (dOp neD (dVar 4) (dVar 2))) (dRet (dC (.bool false))) dNext) (stp b_is_walk_r2))
def b_is_walk_r3 : DS := (dRet (dC (.bool false)))
def b_is_walk_r4 : DS := (dSeq (dFor (dItE1 (dCons (dFrz (dVar 1)) dNil)) (dgTup [(dgName 3), (dgName 4)]) b_is_walk_f1) (stp b_is_walk_r3))
def b_is_walk_r5 : DS := (dSeq (dSet 2 (dTup (dCons (dC (.int 1)) (dCons (dFrz (dOp ixD (dOp ixD (dVar 1) (dC (.int 0))) (dC (.int 1)))) (dCons (dTup dNil) dNil))))) (stp b_is_walk_r4))
def b_is_walk : DS := (dSeq (dIf (dOrT (dNotT (dTru (dVar 1))) (dNotT (dTru (dCall sp_keeps (dCons (dFrz (dOp ixD (dMeth sp_Beside_rules (dVar 0)) (dC (.int 0)))) (dCons (dFrz (dOp ixD (dOp ixD (dVar 1) (dC (.int 0))) (dC (.int 1)))) dNil)))))) (dRet (dC (.bool false))) dNext) (stp b_is_walk_r5))
theorem iw_loop {a b : List Heap1} {n : Int} {E : DEnds} {rows : List Pl} {ans : Bool} (M : Mates 6 a b) (hn : n ≤ 2000) (hrt : ∀ s2 o3 o4, E.rt (.d (.bool ans)) [some (.d (besD (rD a) (rD b))), some (.d (.list (rows.map plD))), s2, o3, o4])
    (hnx : ans = false → ∀ s2 o3 o4, E.nx [some (.d (besD (rD a) (rD b))), some (.d (.list (rows.map plD))), s2, o3, o4]) : ∀ (rest : List Pl) (i : Nat) (p : Pl) (o3 o4 : Option S), AtW a b n (i + 1) p → i + rest.length = rows.length → ans = decide (rest = rowsL a b rest.length (i + 1) p) →
    forGo (dgTup [dgName 3, dgName 4]) b_is_walk_f1 E (pairD 1 i (rest.map plD)) [some (.d (besD (rD a) (rD b))), some (.d (.list (rows.map plD))), some (.d (plD p)), o3, o4]
  | [], i, p, o3, o4, w, hl, h => by
    rw [List.map_nil]
    show forGo _ _ E [] _
    rw [forGo_nilE]
    refine hnx ?_ _ _ _
    rw [h]
    exact decide_eq_false (by simp [rowsL])
  | x :: rest, i, p, o3, o4, w, hl, h => by
    obtain ⟨pp, ph, ps⟩ := w.place M
    have pl := heap_len ph.2
    have pl2 : p.2.1.length ≤ 2000 := by omega
    have ip := isPl_iff.mpr pp
    rw [List.map_cons]
    show forGo _ _ E (.tuple [.int (1 + ((i : Nat) : Int)), plD x] :: pairD 1 (i + 1) (rest.map plD)) _
    rw [forGo_consE]
    have hll : ((rows.map plD).length : Int) = i + 1 + rest.length := by simp only [List.length_map, List.length_cons] at hl ⊢; omega
    by_cases e : x = p
    · subst e
      have h2 : ∀ o, stepR a b (i + 1) x = o → ans = decide (rest = (match o with | none => [] | some q => rowsL a b rest.length (i + 1 + 1) q)) := fun o ho => by
        rw [h]
        subst ho
        show decide (x :: rest = rowsL a b (rest.length + 1) (i + 1) x) = _
        rw [rowsL]
        cases stepR a b (i + 1) x <;> simp
      walk_at "go"
      refine stp_in ?_
      by_cases hp : (i + 1) % 2 = 1
      · have st : stepR a b (i + 1) x = some (crossP a b x) := if_pos hp
        have w2 := w.next M st
        walk_at "go"
        rw [eqv_I, show decide ((1 + ((i : Nat) : Int)) % 2 = 0) = false from decide_eq_false (by omega)]
        walk_at "go"
        refine stp_in ?_
        walk_at "go"
        exact iw_loop M hn hrt hnx rest (i + 1) (crossP a b x) _ _ w2 (by simp only [List.length_cons] at hl; omega) (h2 _ st)
      · have st : stepR a b (i + 1) x = togP a b x := if_neg hp
        have si : togP a b x = none → x.1 = 2 := fun z0 => (w.stop M (st.trans z0)).2.1
        walk_at "go"
        rw [eqv_I, show decide ((1 + ((i : Nat) : Int)) % 2 = 0) = true from decide_eq_true (by omega)]
        cases ht : togP a b x with
        | none =>
          have h3 := h2 _ (st.trans ht)
          have h4 : ans = decide (rest = []) := h3
          rw [ht] at si
          walk_at "go"
          rw [ht]
          walk_at "go"
          refine stp_in ?_
          walk_at "go"
          have e5 : PyData.eqv (.int (1 + ((i : Nat) : Int))) (.int ((rows.map plD).length : Int)) = ans := by
            rw [eqv_I, h4, hll]
            cases rest with
            | nil => simp; omega
            | cons y t => simp; omega
          rw [e5]
          exact hrt _ _ _
        | some z =>
          have w2 := w.next M (st.trans ht)
          rw [ht] at si
          walk_at "go"
          rw [ht]
          walk_at "go"
          refine stp_in ?_
          walk_at "go"
          exact iw_loop M hn hrt hnx rest (i + 1) z _ _ w2 (by simp only [List.length_cons] at hl; omega) (h2 _ (st.trans ht))
    · have hf : ans = false := by
        rw [h]
        refine decide_eq_false fun z => e ?_
        have := rowsL_head a b (x :: rest).length (i + 1) p
        obtain ⟨t, ht⟩ := this
        rw [ht] at z
        exact (List.cons.inj z).1
      subst hf
      walk_at "go"
      walk_at "br"
      · intro _
        walk_at "go"
        exact hrt _ _ _
      · intro z
        exact absurd z e
theorem pf_is_walk : ∀ os PP PX, sp_is_walk os PP PX → b_is_walk (endsOf os PP PX) (rho0 5 os) := by
  intro os P PX hsp
  unfold sp_is_walk at hsp
  split at hsp
  · obtain ⟨a, b, rfl, g0⟩ := besR_of hsp
    obtain ⟨rows, rfl, M, hh, q⟩ := lplK_of g0
    cases rows with
    | nil =>
      walk_at "go"
      exact q
    | cons p t =>
      obtain ⟨h1, h2⟩ := hh p t rfl
      obtain ⟨i0, h, c⟩ := p
      have h1 : isHeap h := h1
      have h2 : h.sum ≤ 2000 := h2
      have e9 : isWalkB a b ((i0, h, c) :: t) = (keepB a h && decide ((i0, h, c) :: t = rowsL a b (t.length + 1) 1 (1, h, []))) := rfl
      cases hk : keepB a h with
      | false =>
        rw [e9, hk, Bool.false_and] at q
        walk_at "go"
        exact q
      | true =>
        rw [e9, hk, Bool.true_and] at q
        have w0 := start_wk (r := a) (s := b) h1
        rw [show ((h.sum.toNat : Nat) : Int) = h.sum by have := (sum_ge h1.2).1; omega] at w0
        walk_at "go"
        refine stp_in ?_
        walk_at "go"
        refine stp_in ?_
        walk_at "go"
        refine iw_loop (n := h.sum) (rows := (i0, h, c) :: t) (ans := decide ((i0, h, c) :: t = rowsL a b (t.length + 1) 1 (1, h, []))) M h2 (fun s2 o3 o4 => q) (fun hf s2 o3 o4 => ?_) ((i0, h, c) :: t) 0 (1, h, []) _ _ (.inl ⟨rfl, w0⟩) (by simp) rfl
        rw [hf] at q
        refine stp_in ?_
        walk_at "go"
        exact q
  · exact hsp.elim

/- 0:_law_script 1:_law_state 2:_law_rules 3:_law_sided 4:_law_n 5:_law_heaps 6:_law_heap_here 7:_law_told_here 8:_law_number 9:_law_about 10:_law_side 11:_law_one 12:_law_choice -/
def b_law_e1 : DE := (dTup (dCons (dFrz (dOp subD (dC (.int 3)) (dVar 10))) (dCons (dFrz (dVar 11)) (dCons (dFrz (dVar 12)) dNil))))
def b_law_r1 : DS := (dRet (dAndV (dOp isD (dCall sp_is_walk (dCons (dFrz (dVar 3)) (dCons (dFrz (dVar 7)) dNil))) (dC (.bool true))) (dOp isD (dCall sp_is_walk (dCons (dFrz (dMeth sp_Beside_back (dVar 3))) (dCons (dFrz (dVar 9)) dNil))) (dC (.bool true)))))
def b_law_r2 : DS := (dSeq (dIf (dNotT (dTru (dCall (sp__law_same 6) (dCons (dFrz (dCall sp__law_told (dCons (dFrz (dMeth sp_Beside_back (dVar 3))) (dCons (dFrz (dOp ixD (dOp ixD (dVar 7) (dUn negD (dC (.int 1)))) (dC (.int 1)))) dNil)))) (dCons (dFrz (dVar 9)) dNil))))) (dRet (dC (.bool false))) dNext) (stp b_law_r1))
def b_law_r3 : DS := (dSeq (dSet 9 (dComp (dIt (dRev (dVar 7))) (dgTup [(dgName 10), (dgName 11), (dgName 12)]) dYes b_law_e1 [10, 11, 12])) (stp b_law_r2))
def b_law_r4 : DS := (dSeq (dIf (dOrT (dNotT (dTru (dCall sp__law_steps_right (dCons (dFrz (dVar 2)) (dCons (dFrz (dVar 7)) dNil))))) (dBl (dOp isNotD (dCall sp__law_first (dCons (dFrz (dOp ixD (dVar 2) (dC (.int 1)))) (dCons (dFrz (dOp ixD (dOp ixD (dVar 7) (dUn negD (dC (.int 1)))) (dC (.int 1)))) dNil))) (dC .none)))) (dRet (dC (.bool false))) dNext) (stp b_law_r3))
def b_law_r5 : DS := (dSeq (dIf (dOrT (dNotT (dTru (dUn (isiD "list") (dVar 7)))) (dOrT (dBl (dOp ltD (dCB lenF (dCons (dVar 7) dNil)) (dC (.int 2)))) (dNotT (dTru (dCall (sp__law_same 6) (dCons (dFrz (dOp ixD (dVar 7) (dC (.int 0)))) (dCons (dTup (dCons (dC (.int 1)) (dCons (dFrz (dVar 6)) (dCons (dTup dNil) dNil)))) dNil))))))) (dRet (dC (.bool false))) dNext) (stp b_law_r4))
def b_law_r6 : DS := (dSeq (dIf (dTru (dUn (isiD "tuple") (dVar 7))) (dRet (dCall (sp__law_same 6) (dCons (dFrz (dVar 7)) (dCons (dTup (dCons (dFrz (dOp ixD (dCall sp__law_walk (dCons (dFrz (dVar 2)) (dCons (dFrz (dVar 6)) (dCons (dC (.int 400)) dNil)))) (dC (.int 399)))) (dCons (dC (.int 400)) dNil))) dNil)))) dNext) (stp b_law_r5))
def b_law_r7 : DS := (dSeq (dSet 8 (dCall sp__law_first (dCons (dFrz (dOp ixD (dVar 2) (dC (.int 0)))) (dCons (dFrz (dVar 6)) dNil)))) (dSeq (dIf (dBl (dOp isNotD (dVar 8) (dC .none))) (dRet (dCall (sp__law_same 6) (dCons (dFrz (dVar 7)) (dCons (dTup (dCons (dFrz (dVar 8)) (dCons (dC (.int 0)) dNil))) dNil)))) dNext) (stp b_law_r6)))
def b_law_r8 : DS := (dSeq (dSet 7 (dCall sp__law_told (dCons (dFrz (dVar 3)) (dCons (dFrz (dVar 6)) dNil)))) (stp b_law_r7))
def b_law_r9 : DS := (dSeq (dSet 4 (dCallM sp__law_draw (dCons (dVar 1) (dCons (dC (.int 13)) dNil)))) (dSeq (dSet 5 (dCall (sp__law_partings 26) (dCons (dFrz (dVar 4)) (dCons (dFrz (dVar 4)) dNil)))) (dSeq (dSet 6 (dOp ixD (dVar 5) (dCallM sp__law_draw (dCons (dVar 1) (dCons (dCB lenF (dCons (dVar 5) dNil)) dNil))))) (dSeq (dIf (dBl (dOp eqD (dCallM sp__law_draw (dCons (dVar 1) (dCons (dC (.int 3)) dNil))) (dC (.int 1)))) (dSet 6 (dCallM sp__law_heap (dCons (dVar 1) (dCons (dC (.int 8)) (dCons (dC (.int 6)) dNil))))) dNext) (stp b_law_r8)))))
def b_law : DS := (dSeq (dSet 2 (dCallM sp__law_two (dCons (dVar 1) dNil))) (dSeq (dSet 3 (dCall sp__law_held (dCons (dFrz (dOp ixD (dVar 2) (dC (.int 0)))) (dCons (dFrz (dOp ixD (dVar 2) (dC (.int 1)))) dNil)))) (dSeq (dIf (dOrT (dBl (dOp isD (dVar 3) (dC .none))) (dNotT (dTru (dCall sp__law_match (dCons (dFrz (dOp ixD (dVar 2) (dC (.int 0)))) (dCons (dFrz (dOp ixD (dVar 2) (dC (.int 1)))) dNil)))))) (dRet (dAndV (dOp isD (dVar 3) (dC .none)) (dNotV (dCall sp__law_match (dCons (dFrz (dOp ixD (dVar 2) (dC (.int 0)))) (dCons (dFrz (dOp ixD (dVar 2) (dC (.int 1)))) dNil)))))) dNext) (stp b_law_r9))))
theorem jS_mem {r : List Heap1} {c d : List Int} (hc : okC r.length c) (hd : okC r.length d) (h : ∀ j, j ∈ c ↔ j ∈ d) : jS r c = jS r d := by
  have in_ : ∀ g ∈ r, ∀ x ∈ g, x ∈ seenL r.flatten := fun g hg x hx => seenL_mem.mpr (List.mem_flatten.mpr ⟨g, hg, hx⟩)
  have le : ∀ {c d : List Int}, (∀ j, j ∈ c → j ∈ d) → ∀ x, mxC (pickC r c) x ≤ mxC (pickC r d) x := fun {c d} h x => mxC_le fun g hg => by
    unfold pickC at hg
    obtain ⟨j, hj, rfl⟩ := List.mem_map.mp hg
    exact mxC_ge (show _ ∈ d.map (fun j : Int => r.getD j.toNat []) from List.mem_map.mpr ⟨j, h j hj, rfl⟩) x
  rw [jS_parts (seenL_nodup _) hc in_, jS_parts (seenL_nodup _) hd in_]
  refine sum_congr fun x _ => ?_
  rw [Nat.le_antisymm (le (fun j => (h j).mp) x) (le (fun j => (h j).mpr) x)]
theorem mates_of {r s : List Heap1} (P : PreM r s) (h : unlO r s = none) : Mates 6 r s := by
  refine ⟨P.len, P.most, P.h1, P.h2, fun c hc => ?_⟩
  have e := (List.findSome?_eq_none_iff.mp h) _ (offC_in r.length (offC r.length c))
  have e2 : jS r (offC r.length (offC r.length c)) = jS s (offC r.length (offC r.length c)) := by
    by_cases z : jS r (offC r.length (offC r.length c)) = jS s (offC r.length (offC r.length c))
    · exact z
    · rw [if_neg z] at e
      cases e
  have m : ∀ j, j ∈ c ↔ j ∈ offC r.length (offC r.length c) := fun j => by
    rw [offC_mem, offC_mem]
    constructor
    · intro hj
      exact ⟨hc j hj, fun z => z.2 hj⟩
    · rintro ⟨z1, z2⟩
      exact Classical.byContradiction fun z => z2 ⟨z1, z⟩
  have ho : okC r.length (offC r.length (offC r.length c)) := fun j hj => (offC_mem.mp hj).1
  rw [jS_mem hc ho m, e2, ← jS_mem (P.len ▸ hc) (P.len ▸ ho) m]
theorem told_off {r s : List Heap1} {h : Heap1} {j : Nat} (e : firstN r h = some j) : toldW r s h = .d (.tuple [.int j, .int 0]) := by unfold toldW; rw [e]
theorem told_rows {r s : List Heap1} {h : Heap1} (e : firstN r h = none) (l : (rowsL r s 400 1 (1, h, [])).length ≤ 400) : toldW r s h = .tmp (.lst ((rowsL r s 400 1 (1, h, [])).map plD)) := by unfold toldW; rw [e]; exact if_pos l
theorem told_long {r s : List Heap1} {h : Heap1} (e : firstN r h = none) (l : ¬ (rowsL r s 400 1 (1, h, [])).length ≤ 400) : toldW r s h = .d (.tuple [plD ((rowsL r s 400 1 (1, h, [])).getD 399 (1, h, [])), .int 400]) := by unfold toldW; rw [e]; exact if_neg l
theorem sum_le4 {c : Int} : ∀ {h : Heap1}, (∀ x ∈ h, x ≤ c) → h.sum ≤ c * h.length
  | [], _ => by simp
  | x :: h, hx => by
    have := sum_le4 (h := h) fun y hy => hx y (by simp [hy])
    have := hx x (by simp)
    rw [List.sum_cons, List.length_cons, Int.natCast_add, Int.mul_add]
    simp only [Int.natCast_one, Int.mul_one]
    omega
theorem last_of {rows : List Pl} {p : Pl} (e : rows[rows.length - 1]? = some p) : ∃ ne : rows ≠ [], rows.getLast ne = p := by
  obtain ⟨lt, e⟩ := List.getElem?_eq_some_iff.mp e
  have ne : rows ≠ [] := fun z => by rw [z] at lt; simp at lt
  exact ⟨ne, by rw [List.getLast_eq_getElem]; exact e⟩
theorem whole_walk {r s : List Heap1} {h : Heap1} {rows : List Pl} (w : WholeW r s h rows) : isWalkB r s rows = true := by
  have f := w.first
  cases rows with
  | nil => cases f
  | cons p t =>
    obtain rfl : p = (1, h, []) := by simpa using f
    have e := w.rows (f := t.length + 1) (Nat.le_refl _)
    show (keepB r h && decide (((1, h, []) : Pl) :: t = rowsL r s (t.length + 1) 1 (1, h, []))) = true
    rw [first_keep.mp w.keep, Bool.true_and]
    exact decide_eq_true e.symm
theorem whole_heads {r s : List Heap1} {h : Heap1} {rows : List Pl} (w : WholeW r s h rows) (hs : h.sum ≤ 2000) : ∀ p t, rows = p :: t → isHeap p.2.1 ∧ p.2.1.sum ≤ 2000 := fun p t e => by
  have f := w.first
  rw [e] at f
  obtain rfl : p = (1, h, []) := by simpa using f
  exact ⟨w.heap, hs⟩
section
variable {A : Addr} {b : Nat} {r s : List Heap1} {h g : Heap1} {rows : List Pl} {o4 o5 o8 o9 : Option S}
theorem law_r1 (M : Mates 6 r s) (w : WholeW r s h rows) (w2 : WholeW s r g (rows.reverse.map mir)) (hs : h.sum ≤ 100) (gs : g.sum ≤ 100) :
    b_law_r1 lawEnds [none, some (.lent A (.st b)), some (.d (.tuple [rD r, rD s])), some (.d (besD (rD r) (rD s))), o4, o5, some (.d (hD h)), some (.d (.list (rows.map plD))), o8, some (.d (.list ((rows.reverse.map mir).map plD))), none, none, none] := by
  have Ms := M.symm
  have e1 := M.len
  have h6 : r.length ≤ 6 := M.most
  have kr := M.okJ (by decide)
  have ks := Ms.okJ (by decide)
  have un := unl_mates Ms
  have z1 := whole_heads w (by omega)
  have z2 := whole_heads w2 (by omega)
  walk_at "go"
  rw [whole_walk w]
  walk_at "go"
  rw [whole_walk w2]
  walk_at "go"
  rfl
theorem law_r2 (M : Mates 6 r s) (w : WholeW r s h rows) (w2 : WholeW s r g (rows.reverse.map mir)) (hs : h.sum ≤ 100) (gs : g.sum ≤ 100) (hl : rows.length ≤ 400) (ne : rows ≠ []) (el : rows.getLast ne = (2, g, [])) (s9 : S)
    (h9 : s9 = .own (.lst ((rows.reverse.map mir).map plD)) ∨ s9 = .d (.list ((rows.reverse.map mir).map plD))) :
    b_law_r2 lawEnds [none, some (.lent A (.st b)), some (.d (.tuple [rD r, rD s])), some (.d (besD (rD r) (rD s))), o4, o5, some (.d (hD h)), some (.d (.list (rows.map plD))), o8, some s9, none, none, none] := by
  have Ms := M.symm
  have e1 := M.len
  have h6 : r.length ≤ 6 := M.most
  have kr := M.okJ (by decide)
  have ks := Ms.okJ (by decide)
  have un := unl_mates Ms
  have gh := w2.heap
  have l2 : (rows.reverse.map mir).length ≤ 400 := by rw [List.length_map, List.length_reverse]; exact hl
  have rw2 := w2.rows l2
  have tl := told_rows w2.keep (by rw [rw2]; exact l2)
  rw [rw2] at tl
  rcases h9 with rfl | rfl
  · walk_at "go"
    refine getK_last ne ?_
    rw [el]
    walk_at "go"
    rw [tl]
    walk_at "go"
    refine And.intro (ok_pls 2 _) ?_
    walk_at "go"
    (try (walk_at "nv")); exact stp_in (law_r1 M w w2 hs gs)
  · walk_at "go"
    refine getK_last ne ?_
    rw [el]
    walk_at "go"
    rw [tl]
    walk_at "go"
    refine And.intro (ok_pls 2 _) ?_
    walk_at "go"
    (try (walk_at "nv")); exact stp_in (law_r1 M w w2 hs gs)
theorem law_r3 (M : Mates 6 r s) (w : WholeW r s h rows) (hs : h.sum ≤ 100) (hl : rows.length ≤ 400) :
    b_law_r3 lawEnds [none, some (.lent A (.st b)), some (.d (.tuple [rD r, rD s])), some (.d (besD (rD r) (rD s))), o4, o5, some (.d (hD h)), some (.d (.list (rows.map plD))), o8, none, none, none, none] := by
  obtain ⟨g, e1, w2⟩ := w.back M
  obtain ⟨_, g2, el, gh, gs, gf⟩ := w.end' M
  rw [e1] at el
  obtain rfl : g = g2 := by simpa using el
  obtain ⟨ne, el⟩ := last_of e1
  walk_at "go"
  rw [← List.map_reverse]
  (try (walk_at "nv")); refine compGo_map plD (fun p => plD (mir p)) (fun p hp acc K hK => ?_) ?_
  · walk_at "go"
    exact hK
  · rw [List.nil_append, show rows.reverse.map (fun p => plD (mir p)) = (rows.reverse.map mir).map plD from by rw [List.map_map]; rfl]
    walk_at "go"
    refine stp_in ?_
    exact law_r2 M w w2 hs (by omega) hl ne el _ (.inl rfl)
theorem law_r4 (M : Mates 6 r s) (w : WholeW r s h rows) (hs : h.sum ≤ 100) (hl : rows.length ≤ 400) :
    b_law_r4 lawEnds [none, some (.lent A (.st b)), some (.d (.tuple [rD r, rD s])), some (.d (besD (rD r) (rD s))), o4, o5, some (.d (hD h)), some (.own (.lst (rows.map plD))), o8, none, none, none, none] := by
  have wk : WalkOk r s rows := ⟨h, w, by omega⟩
  have l3 : rows.length ≤ 1000 := by omega
  obtain ⟨_, g, el, gh, gs, gf⟩ := w.end' M
  obtain ⟨ne, el⟩ := last_of el
  have h6 : r.length ≤ 6 := M.most
  have e1 := M.len
  have k6 : s.length ≤ 1000 := by omega
  walk_at "go"
  refine getK_last ne ?_
  rw [el]
  walk_at "go"
  rw [gf]
  walk_at "go"
  refine stp_in ?_
  exact law_r3 M w hs hl
theorem law_r5 (M : Mates 6 r s) (w : WholeW r s h rows) (hs : h.sum ≤ 100) (hl : rows.length ≤ 400) :
    b_law_r5 lawEnds [none, some (.lent A (.st b)), some (.d (.tuple [rD r, rD s])), some (.d (besD (rD r) (rD s))), o4, o5, some (.d (hD h)), some (.own (.lst (rows.map plD))), o8, none, none, none, none] := by
  have hlen : (rows.map plD).length = rows.length := List.length_map ..
  have hl2 : (rows.map plD).length ≤ 8388608 := by omega
  have four := w.four M
  have lt2 : ¬ ((rows.map plD).length : Int) < 2 := by omega
  have f := w.first
  obtain ⟨lt, f⟩ := List.getElem?_eq_some_iff.mp f
  walk_at "go"
  refine getK_nat 0 rfl lt ?_
  rw [f]
  walk_at "go"
  refine And.intro (ok_pl 3 (1, h, [])) ?_
  walk_at "go"
  (try (walk_at "nv")); exact stp_in (law_r4 M w hs hl)
theorem law_r7 (M : Mates 6 r s) (hh : isHeap h) (hs : h.sum ≤ 100) :
    b_law_r8 lawEnds [none, some (.lent A (.st b)), some (.d (.tuple [rD r, rD s])), some (.d (besD (rD r) (rD s))), o4, o5, some (.d (hD h)), none, none, none, none, none, none] := by
  have h6 : r.length ≤ 6 := M.most
  cases hf : firstN r h with
  | some j =>
    walk_at "go"
    rw [told_off hf]
    walk_at "go"
    refine stp_in ?_
    walk_at "go"
    rw [hf]
    walk_at "go"
    exact And.intro (okS_cons trivial (okS_cons trivial okS_nil)) rfl
  | none =>
    by_cases l : (rowsL r s 400 1 (1, h, [])).length ≤ 400
    · have w := WholeW.of (s := s) hh hf l
      walk_at "go"
      rw [told_rows hf l]
      walk_at "go"
      generalize rowsL r s 400 1 (1, h, []) = rows at l w
      refine stp_in ?_
      walk_at "go"
      rw [hf]
      walk_at "go"
      refine stp_in ?_
      walk_at "go"
      (try (walk_at "nv")); exact stp_in (law_r5 M w hs l)
    · walk_at "go"
      rw [told_long hf l]
      walk_at "go"
      refine stp_in ?_
      walk_at "go"
      rw [hf]
      walk_at "go"
      refine stp_in ?_
      have lt : 399 < (rowsL r s 400 1 (1, h, [])).length := by omega
      walk_at "go"
      refine getK_nat 399 rfl lt ?_
      rw [getD_at lt]
      walk_at "go"
      exact And.intro (ok_far 2 _ _) rfl
end
theorem pf_law : ∀ a, b_law lawEnds ([none, some (.lent a (.st 0))] ++ List.replicate 11 none) := by
  intro A
  walk_at "go"
  intro r s b1 M0 b10 b11
  have e1 := M0.len
  have h6 : r.length ≤ 6 := M0.most
  have kr : okJ r := ⟨by omega, fun g hg => by have := (M0.h1 g hg).2.1; omega⟩
  have ks : okJ s := ⟨by omega, fun g hg => by have := (M0.h2 g hg).2.1; omega⟩
  cases e : unlO r s with
  | some u =>
    walk_at "go"
    rw [e]
    walk_at "go"
    rw [e]
    rfl
  | none =>
    have M := mates_of M0 e
    walk_at "go"
    rw [e]
    walk_at "go"
    rw [e]
    walk_at "go"
    refine stp_in ?_
    walk_at "go"
    intro n n0 n1
    have p1 := pts_len24 (k := 26) (n := n.toNat) (m := n.toNat) (by omega)
    have p0 := List.length_pos_iff.mpr (pts_ne 26 n.toNat n.toNat (by omega) (by omega))
    have l1 : ((pts 26 n.toNat n.toNat).map hD).length = (pts 26 n.toNat n.toNat).length := List.length_map ..
    walk_at "go"
    rw [l1]
    walk_at "go"
    intro k k0 k1
    obtain ⟨kn, rfl⟩ : ∃ m : Nat, k = (m : Int) := ⟨k.toNat, by omega⟩
    walk_at "go"
    refine getK_nat kn rfl (by omega) ?_
    have hm := List.getElem_mem (show kn < (pts 26 n.toNat n.toNat).length by omega)
    have q1 := pts_heap hm
    have q2 := (pts_mem _ _ _ _ hm).1
    generalize (pts 26 n.toNat n.toNat)[kn] = h at q1 q2
    walk_at "go"
    intro w w0 w1
    walk_at "go"
    walk_at "br"
    · intro c
      walk_at "go"
      intro h2 b' hi hl hx c1 c2
      walk_at "go"
      have := sum_le4 hx
      (try (walk_at "nv")); exact stp_in (law_r7 M hi (by omega))
    · intro c
      walk_at "go"
      (try (walk_at "nv")); exact stp_in (law_r7 M q1 (by omega))

section
variable {P : Program} {w : World} {K : PySem.W.Frag} {mg : Str → Option Value} {base : Heap}
theorem nof_choice (T : Txt K mg) : ∀ n ∈ [19], n ∈ [0, 2, 7, 8, 9, 17, 18, 19, 20] ∧ PySem.W.findIn K (.ref (T.ca n)) "choice" = some none := List.forall_mem_cons.mpr ⟨⟨by decide, T.no_19_choice⟩, by simp⟩
theorem nof_number (T : Txt K mg) : ∀ n ∈ [18], n ∈ [0, 2, 7, 8, 9, 17, 18, 19, 20] ∧ PySem.W.findIn K (.ref (T.ca n)) "number" = some none := List.forall_mem_cons.mpr ⟨⟨by decide, T.no_18_number⟩, by simp⟩
theorem nof_one (T : Txt K mg) : ∀ n ∈ [19], n ∈ [0, 2, 7, 8, 9, 17, 18, 19, 20] ∧ PySem.W.findIn K (.ref (T.ca n)) "one" = some none := List.forall_mem_cons.mpr ⟨⟨by decide, T.no_19_one⟩, by simp⟩
theorem nof_other (T : Txt K mg) : ∀ n ∈ [19], n ∈ [0, 2, 7, 8, 9, 17, 18, 19, 20] ∧ PySem.W.findIn K (.ref (T.ca n)) "other" = some none := List.forall_mem_cons.mpr ⟨⟨by decide, T.no_19_other⟩, by simp⟩
theorem nof_part (T : Txt K mg) : ∀ n ∈ [17], n ∈ [0, 2, 7, 8, 9, 17, 18, 19, 20] ∧ PySem.W.findIn K (.ref (T.ca n)) "part" = some none := List.forall_mem_cons.mpr ⟨⟨by decide, T.no_17_part⟩, by simp⟩
theorem nof_place (T : Txt K mg) : ∀ n ∈ [20], n ∈ [0, 2, 7, 8, 9, 17, 18, 19, 20] ∧ PySem.W.findIn K (.ref (T.ca n)) "place" = some none := List.forall_mem_cons.mpr ⟨⟨by decide, T.no_20_place⟩, by simp⟩
theorem ini_17 (T : Txt K mg) : IniF P w K mg base (T.ca 17) ["part"] := ⟨oexB_ok T.oex_17, List.forall_mem_cons.mpr ⟨T.no_17_part, by simp⟩, T.fI_17, T.dI_17, ["self", "part"], T.iC_17, T.tI_17, T.bI_17, init1 T.FI_17 scI_17 fun cdv A outer s H E => (pss_one (ps_ost (pv 0) (pv 1)))⟩
theorem ini_18 (T : Txt K mg) : IniF P w K mg base (T.ca 18) ["number"] := ⟨oexB_ok T.oex_18, List.forall_mem_cons.mpr ⟨T.no_18_number, by simp⟩, T.fI_18, T.dI_18, ["self", "number"], T.iC_18, T.tI_18, T.bI_18, init1 T.FI_18 scI_18 fun cdv A outer s H E => (pss_one (ps_ost (pv 0) (pv 1)))⟩
theorem ini_19 (T : Txt K mg) : IniF P w K mg base (T.ca 19) ["choice", "one", "other"] := ⟨oexB_ok T.oex_19, List.forall_mem_cons.mpr ⟨T.no_19_choice, List.forall_mem_cons.mpr ⟨T.no_19_one, List.forall_mem_cons.mpr ⟨T.no_19_other, by simp⟩⟩⟩, T.fI_19, T.dI_19, ["self", "choice", "one", "other"], T.iC_19, T.tI_19, T.bI_19, init3 T.FI_19 scI_19 fun cdv A outer s H E => (pss_cons (ps_ost (pv 0) (pv 1)) (pss_cons (ps_ost (pv 0) (pv 2)) (pss_one (ps_ost (pv 0) (pv 3)))))⟩
theorem ini_20 (T : Txt K mg) : IniF P w K mg base (T.ca 20) ["place"] := ⟨oexB_ok T.oex_20, List.forall_mem_cons.mpr ⟨T.no_20_place, by simp⟩, T.fI_20, T.dI_20, ["self", "place"], T.iC_20, T.tI_20, T.bI_20, init1 T.FI_20 scI_20 fun cdv A outer s H E => (pss_one (ps_ost (pv 0) (pv 1)))⟩
theorem ok__law_mix (T : Txt K mg) : FnOk P w K mg base (L2.CX P w) 1 T.f__law_mix T.d__law_mix ["_law_state"] spMix := by
  refine T.F__law_mix.okX sc__law_mix (fun vs H Q E h => ?_) (fun cdv A outer s H vs Q E hr h => ?_)
  · obtain ⟨a, g, c, gs, cur, cs, cnt, rfl, _⟩ := h
    rfl
  · obtain ⟨a, g, c, gs, cur, cs, cnt, rfl, st, h0, h1, q⟩ := h
    refine ⟨_, pss_cons (ps_augS (pv 0) pe_int get_list pe_int ip_add set_list)
      (pss_cons (ps_set (i := 1) sc__law_mix.nd rfl (.inl rfl) (pe_ix ix_list (pv 0) pe_int (fun _ _ => rfl)))
      (pss_cons (ps_set (i := 2) sc__law_mix.nd rfl (.inl rfl) pe_int)
      (pss_cons (ps_if (pt_truth (pe_ix ix_list (pv 0) pe_int (fun _ _ => rfl)) (fun _ => rfl))
        (pss_one (ps_set (i := 2) sc__law_mix.nd rfl (.inl rfl) (pe_ix ix_list (pe_ix ix_list (pv 0) pe_int (fun _ _ => rfl)) (pe_op op_mod (pv 1) (pe_callB call_len_seq (by rfl) T.z_len PySem.boot_len (pa_cons (pe_ix ix_list (pv 0) pe_int (fun _ _ => rfl)) pa_nil))) (fun _ _ => rfl)))) pss_nil)
      (pss_cons (ps_set (i := 3) sc__law_mix.nd rfl (.inl rfl) (pe_op op_mod (pe_op op_mul (pe_op op_add (pe_op op_add (pe_op op_add (pv 2) (pe_op op_mul (pe_op op_mul pe_int (pv 1)) (pv 1))) (pe_op op_mul pe_int (pv 1))) pe_int) pe_int) pe_int))
      (pss_one (ps_ret (pe_op op_mod (pe_op op_mul (pe_op op_add (pe_op op_add (pv 3) (pe_op op_mul pe_int (pv 1))) pe_int) pe_int) pe_int))))))), ?_⟩
    have hi : ∀ j : Nat, j < 4 → atI [V.ref g, V.int cur, V.ref c, V.int cnt] (j : Int) = [V.ref g, V.int cur, V.ref c, V.int cnt][j]? := fun j hj => by
      match j, hj with
      | 0, _ => rfl
      | 1, _ => rfl
      | 2, _ => rfl
      | 3, _ => rfl
    have st1 := st.setA (cur' := cur) (cnt' := cnt + 1)
    refine ⟨_, rfl, a, _, 3, _, rfl, rfl, SqL.of st.ha, rfl, cnt, 1, rfl, rfl, a, _, 3, 3, rfl, rfl, st.ha, rfl, ?_⟩
    show tSeq _ _ _ _ (upd H a (.lst [.ref g, .int cur, .ref c, .int (cnt + 1)]))
    refine ⟨_, rfl, a, _, 3, _, rfl, rfl, SqL.of st1.ha, rfl, ?_⟩
    have cc : ∀ {i j : Int}, -(2 ^ 64) < j → j < 2 ^ 64 → CMul i j := fun h1 h2 => .inr ⟨h1, h2⟩
    have rest : ∀ cell : Int, tSeq (tAsg (tOp (rI (fun _ j => 0 < j) fun i j => .int (i % j)) (tOp (rI CMul fun i j => .int (i * j)) (tOp (rI0 fun i j => .int (i + j)) (tOp (rI0 fun i j => .int (i + j)) (tOp (rI0 fun i j => .int (i + j)) (tVar 2) (tOp (rI CMul fun i j => .int (i * j)) (tOp (rI CMul fun i j => .int (i * j)) (tC (.int 7)) (tVar 1)) (tVar 1))) (tOp (rI CMul fun i j => .int (i * j)) (tC (.int 13)) (tVar 1))) (tC (.int 5))) (tC (.int 1220703125))) (tC (.int 2147483647))) (gName 3))
        (tRet (tOp (rI (fun _ j => 0 < j) fun i j => .int (i % j)) (tOp (rI CMul fun i j => .int (i * j)) (tOp (rI0 fun i j => .int (i + j)) (tOp (rI0 fun i j => .int (i + j)) (tVar 3) (tOp (rI CMul fun i j => .int (i * j)) (tC (.int 17)) (tVar 1))) (tC (.int 3))) (tC (.int 39373))) (tC (.int 1000000007))))
        { nx := fun _ H' => Q .non H', rt := Q } [some (.ref a), some (.int (cnt + 1)), some (.int cell), none] (upd H a (.lst [.ref g, .int cur, .ref c, .int (cnt + 1)])) := fun cell => by
      refine ⟨_, rfl, _, rfl, _, _, rfl, rfl, cc (by omega) (by omega), _, rfl, _, _, rfl, rfl, cc (by omega) (by omega), _, _, rfl, rfl, _, rfl, _, _, rfl, rfl, cc (by omega) (by omega), _, _, rfl, rfl, _, _, rfl, rfl, _, _, rfl, rfl, cc (by omega) (by omega), _, _, rfl, rfl, (by decide : (0 : Int) < 2147483647), ?_⟩
      refine ⟨_, rfl, _, rfl, _, _, rfl, rfl, cc (by omega) (by omega), _, _, rfl, rfl, _, _, rfl, rfl, _, _, rfl, rfl, cc (by omega) (by omega), _, _, rfl, rfl, (by decide : (0 : Int) < 1000000007), ?_⟩
      exact q _ (Int.emod_nonneg _ (by decide)) (Int.emod_lt_of_pos _ (by decide))
    refine ⟨_, rfl, a, _, 2, .ref c, rfl, rfl, SqL.of st1.ha, rfl, _, .inl ⟨_, SqL.of st1.hc, rfl⟩, ite2 (fun e => ?_) (fun e => ?_)⟩
    · have n0 : 0 < cs.length := by
        cases cs with
        | nil => cases e
        | cons _ _ => exact Nat.succ_pos _
      have l0 : ((cs.map V.int).length : Int) = cs.length := by rw [List.length_map]
      have m1 := Int.emod_nonneg (cnt + 1) (show (cs.length : Int) ≠ 0 by omega)
      have m2 := Int.emod_lt_of_pos (cnt + 1) (show 0 < (cs.length : Int) by omega)
      obtain ⟨j, ej⟩ : ∃ j : Nat, (cnt + 1) % (cs.length : Int) = j := ⟨_, (Int.toNat_of_nonneg m1).symm⟩
      have hj : j < cs.length := by omega
      refine ⟨_, rfl, a, _, 2, .ref c, rfl, rfl, SqL.of st1.ha, rfl, _, rfl, _, rfl, a, _, 2, .ref c, rfl, rfl, SqL.of st1.ha, rfl, c, _, rfl, .inl (SqL.of st1.hc), _, _, rfl, rfl, (by rw [l0]; omega), c, _, _, .int cs[j], rfl, rfl, SqL.of st1.hc, ?_, rest _⟩
      rw [l0, ej]
      exact atI_nat (by rw [List.getElem?_map, List.getElem?_eq_getElem hj]; rfl)
    · exact rest 5
theorem ok_draw0 (T : Txt K mg) : FnOk P w K mg base (L2.CX P w) 2 T.f__law_draw T.d__law_draw ["_law_state", "_law_many"] spDraw := by
  refine T.F__law_draw.okX sc__law_draw (fun vs H Q E h => ?_) (fun cdv A outer s H vs Q E hr h => ?_)
  · obtain ⟨a, g, c, gs, cur, cs, cnt, m, rfl, _⟩ := h
    rfl
  · obtain ⟨a, g, c, gs, cur, cs, cnt, m, rfl, st, hg, hcur, h0, h1, hm0, hm1, q⟩ := h
    have tk : Takes (cxOf (L2.CX P w) P w K mg base ["_law_state", "_law_many", "_law_told_here", "_law_size"] "_law_draw" (defScope s__law_draw) T.f__law_draw cdv A outer s H E) (fun cls d _ H => E cls d H) := takes_of rfl rfl rfl rfl
    refine ⟨_, pss_cons (ps_if (PW.pt (pw_and (pt_cmpR op_eq (pe_ix ix_list (pv 0) pe_int (fun _ _ => rfl)) pe_int (nomark _)) (pw_and1 (pt_truth (pe_ix ix_list (pv 0) pe_int (fun _ _ => rfl)) (fun _ => rfl)))))
        (pss_one (ps_asg (pe_bm PySem.F.plainAttrs_list PySem.F.slot_list_pop PySem.F.type_list_pop mt_popAt (pe_ix ix_list (pv 0) pe_int (fun _ _ => rfl)) (pa_cons pe_int pa_nil)) (pg_sub (pv 0) pe_int set_list))) pss_nil)
      (pss_cons (ps_if (pt_cmpR op_gt (pe_ix ix_list (pv 0) pe_int (fun _ _ => rfl)) pe_int (nomark _))
        (pss_cons (ps_set (i := 2) sc__law_draw.nd rfl (.inl rfl) (pe_op op_mod (pe_ix ix_list (pv 0) pe_int (fun _ _ => rfl)) (pv 1)))
        (pss_cons (ps_asg (pe_op op_fdivW (pe_ix ix_list (pv 0) pe_int (fun _ _ => rfl)) (pv 1)) (pg_sub (pv 0) pe_int set_list))
        (pss_one (ps_ret (pv 2))))) pss_nil)
      (pss_cons (ps_set (i := 2) sc__law_draw.nd rfl (.inl rfl) pe_int)
      (pss_cons (ps_set (i := 3) sc__law_draw.nd rfl (.inl rfl) pe_int)
      (pss_cons (ps_while (passes_of rfl) (pt_cmpR op_lt (pv 3) (pv 1) (nomark _))
        (pss_cons (ps_set (i := 2) sc__law_draw.nd rfl (.inl rfl) (pe_op op_add (pe_op op_mul (pv 2) pe_int) (pe_callS (E := WE fun cls d _ H => E cls d H) (ok__law_mix T) (hr.mono (by decide)) (by rfl) T.g__law_mix T.F__law_mix.kp T.b__law_mix (fun σ => passAt tk σ) (pa_cons (pv 0) pa_nil))))
        (pss_one (ps_set (i := 3) sc__law_draw.nd rfl (.inl rfl) (pe_op op_mul (pv 3) pe_int)))))
      (pss_one (ps_ret (pe_op op_mod (pv 2) (pv 1)))))))), ?_⟩
    have cc : ∀ {i j : Int}, -(2 ^ 64) < j → j < 2 ^ 64 → CMul i j := fun h1 h2 => .inr ⟨h1, h2⟩
    refine seq_key (fun σ' H1 => ∃ (gs1 : List Int) (cur1 : Int), σ' = [some (.ref a), some (.int m), none, none] ∧ StH H1 a g c gs1 cur1 cs cnt ∧ (∀ g ∈ gs1, g ∈ gs) ∧ gs1.length ≤ gs.length ∧ 0 ≤ cur1 ∧ (∀ x, x ≠ a → x ≠ g → H1 x = H x)) ?rest fun key => ?main
    case main =>
      have k0 := key _ H ⟨gs, cur, rfl, st, (fun _ h => h), Nat.le_refl _, hcur, fun _ _ _ => rfl⟩
      refine ⟨_, rfl, a, _, 1, _, rfl, rfl, SqL.of st.ha, rfl, rfl, _, rfl, ite2 (fun e => ?_) (fun e => iteF k0)⟩
      refine ⟨_, rfl, a, _, 0, _, rfl, rfl, SqL.of st.ha, rfl, _, .inl ⟨_, SqL.of st.hg, rfl⟩, ite2 (fun e2 => ?_) (fun e2 => k0)⟩
      obtain ⟨x, gs, rfl⟩ : ∃ x gs', gs = x :: gs' := by
        cases gs with
        | nil => cases e2
        | cons x gs => exact ⟨x, gs, rfl⟩
      have st1 := st.setG (gs' := gs)
      refine ⟨_, rfl, a, _, 0, .ref g, rfl, rfl, SqL.of st.ha, rfl, .inl ⟨rfl, _, SqL.of st.hg⟩, g, _, 0, 0, .int x, rfl, rfl, st.hg, by decide, by decide, seqIndex_of (Int.le_refl 0) (by simp), rfl, _, rfl, a, _, 1, 1, rfl, rfl, st1.ha, rfl, ?_⟩
      exact key _ _ ⟨gs, x, rfl, st1.setA, (fun y hy => List.mem_cons_of_mem _ hy), Nat.le_succ _, Int.le_of_lt (hg x (by simp)), fun y h1 h2 => by rw [upd_ne h1, upd_ne h2]⟩
    case rest =>
      rintro _ H1 ⟨gs1, cur1, rfl, st1, hg1, hl1, hc1, oth1⟩
      refine ⟨_, rfl, a, _, 1, _, rfl, rfl, SqL.of st1.ha, rfl, _, _, rfl, rfl, _, rfl, ite2 (fun e => ?_) (fun e => ?_)⟩
      · have e : (0 : Int) < cur1 := of_decide_eq_true e
        refine ⟨_, rfl, a, _, 1, _, rfl, rfl, SqL.of st1.ha, rfl, _, rfl, _, _, rfl, rfl, hm0, _, rfl, a, _, 1, _, rfl, rfl, SqL.of st1.ha, rfl, _, rfl, _, _, rfl, rfl, wide_div hm0 (b := 300) (by omega) (by decide) (by decide), _, rfl, a, _, 1, 1, rfl, rfl, st1.ha, rfl, _, rfl, ?_⟩
        exact q _ gs1 (cur1 / m) cnt _ (Int.emod_nonneg _ (by omega)) (Int.emod_lt_of_pos _ hm0) st1.setA hg1 hl1 (Int.ediv_nonneg hc1 (by omega)) (Int.le_refl _) (by omega) (fun x h1 h2 => by rw [upd_ne h1]; exact oth1 x h1 h2)
      · refine ⟨fun i σ' H' => ∃ (told : Int) (j : Nat), σ' = [some (.ref a), some (.int m), some (.int told), some (.int (1000000007 ^ j))] ∧ i + j = 8 ∧ StH H' a g c gs1 cur1 cs (cnt + j) ∧ (∀ x, x ≠ a → x ≠ g → H' x = H x), ⟨8, 0, 0, rfl, rfl, by simpa using st1, oth1⟩, ?_⟩
        rintro i σ' H' ⟨told, j, rfl, hij, st2, oth2⟩
        refine ⟨_, rfl, _, rfl, _, _, rfl, rfl, _, rfl, ite2 (fun e => ?_) (fun e => ?_)⟩
        · have e : (1000000007 : Int) ^ j < m := of_decide_eq_true e
          have hj : j < 8 := pow_small e hm1
          have st3 := st2.setA (cur' := cur1) (cnt' := cnt + j + 1)
          refine ⟨fun σ' H' => ∃ (told : Int), σ' = [some (.ref a), some (.int m), some (.int told), some (.int (1000000007 ^ (j + 1)))] ∧ StH H' a g c gs1 cur1 cs (cnt + (j + 1 : Nat)) ∧ (∀ x, x ≠ a → x ≠ g → H' x = H x), fun σ' H' ⟨told', e1, e2, e3⟩ => ⟨i - 1, by omega, told', j + 1, e1, by omega, e2, e3⟩, ?_⟩
          refine ⟨_, rfl, _, _, rfl, rfl, cc (by decide) (by decide), _, rfl, a, g, c, gs1, cur1, cs, cnt + j, rfl, st2, by omega, by omega, fun r r0 r1 => ⟨_, _, rfl, rfl, _, rfl, _, _, rfl, rfl, cc (by decide) (by decide), ?_⟩⟩
          refine ⟨told * 1000000007 + r, by rw [Int.pow_succ]; rfl, ?_, fun x h1 h2 => by rw [upd_ne h1]; exact oth2 x h1 h2⟩
          have : cnt + ((j + 1 : Nat) : Int) = cnt + j + 1 := by omega
          rw [this]; exact st3
        · refine ⟨_, rfl, _, rfl, _, _, rfl, rfl, hm0, ?_⟩
          exact q _ gs1 cur1 (cnt + j) _ (Int.emod_nonneg _ (by omega)) (Int.emod_lt_of_pos _ hm0) st2 hg1 hl1 hc1 (by omega) (by omega) oth2
theorem ok_start0 (T : Txt K mg) : FnOk P w K mg base (L2.CX P w) 1 T.f__law_start T.d__law_start ["_law_script"] (spStart K) := by
  refine T.F__law_start.okX sc__law_start (fun vs H Q E h => ?_) (fun cdv A outer s H vs Q E hr h => ?_)
  · obtain ⟨a, ns, rfl, _⟩ := h
    rfl
  · obtain ⟨a, ns, rfl, hS, hl, q⟩ := h
    refine ⟨_, pss_cons (ps_setLc (i := 1) rfl sc__law_start.nd rfl rfl (sw_true rfl rfl rfl (by decide +kernel)) (pi_list (pv 0)) (@blkOk_by ["_law_script", "_law_great", "_law_cell"] (defScope s__law_start) _ [("_law_cell", 2)] (by decide +kernel)) (fun _ _ _ _ _ => pg_name (i := 2) sc__law_start.nd rfl (.inl rfl))
        (fun _ _ _ _ _ => pts_one (pt_cmpR op_ge (pv 2) (pe_op op_pow pe_int pe_int) (nomark _))) (fun _ _ _ _ _ => pv 2))
      (pss_one (ps_ret (pe_lst (pa_cons (pv 1) (pa_cons pe_int (pa_cons (pe_lc rfl sc__law_start.nd (pi_list (pv 0)) (@blkOk_by ["_law_script", "_law_great", "_law_cell"] (defScope s__law_start) _ [("_law_cell", 2)] (by decide +kernel)) (fun _ _ _ _ _ => pg_name (i := 2) sc__law_start.nd rfl (.inl rfl))
        (fun _ _ _ _ _ => pts_nil) (fun _ _ _ _ _ => pe_op op_mod (pv 2) pe_int)) (pa_cons pe_int pa_nil))))))), ?_⟩
    have sl : (sizeLine : Nat) = 16777216 := sizeLine_eq
    let f : Int → Bool := fun x => decide ((10 : Int) ^ 18 ≤ x)
    refine ⟨_, rfl, a, rfl, ⟨_, hS⟩, fun g ng => ?_⟩
    have sg : ∀ xs, Same H (upd H g (.lst xs)) := fun xs b x e => by
      rw [upd_ne (ne_of_none e ng)]; exact e
    refine lc_list (fun i H' => H' = upd H g (.lst (((ns.take i).filter f).map V.int))) rfl (fun i H' _ e => by rw [e]; exact (sg _).seq hS) (fun i x H' hx e => ?_) (fun H' e => ?_)
    · subst e
      rw [List.getElem?_map, Option.map_eq_some_iff] at hx
      obtain ⟨n, hn, rfl⟩ := hx
      have et : ns.take (i + 1) = ns.take i ++ [n] := by rw [List.take_add_one, hn]; rfl
      refine ⟨rfl, _, rfl, 10, 18, rfl, rfl, ⟨by decide, by decide, by decide⟩, n, 10 ^ 18, rfl, rfl, _, rfl, ite2 (fun e => ?_) (fun e => ?_)⟩
      · refine ⟨_, rfl, _, upd_same, ?_, ?_⟩
        · have h1 := List.length_filter_le f (ns.take i)
          rw [List.length_take] at h1
          rw [List.length_map]
          omega
        · have e : f n = true := e
          show _ = _
          rw [et, List.filter_append, List.filter_cons_of_pos e, upd_upd, List.map_append]
          rfl
      · have e : ¬ f n = true := e
        show _ = _
        rw [et, List.filter_append, List.filter_cons_of_neg e, List.filter_nil, List.append_nil]
    · subst e
      rw [List.length_map, List.take_length]
      have s1 := sg (((ns.filter f)).map V.int)
      refine ⟨_, rfl, _, rfl, a, rfl, ⟨_, s1.seq hS⟩, fun c nc => ?_⟩
      have gc : g ≠ c := fun z => by rw [← z, upd_same] at nc; cases nc
      have s2 : ∀ xs, Same (upd H g (.lst ((ns.filter f).map V.int))) (upd (upd H g (.lst ((ns.filter f).map V.int))) c (.lst xs)) := fun xs b x e => by
        rw [upd_ne (ne_of_none e nc)]; exact e
      refine lc_list (fun i H' => H' = upd (upd H g (.lst ((ns.filter f).map V.int))) c (.lst (((ns.take i).map (· % 2147483629)).map V.int))) rfl (fun i H' _ e => by rw [e]; exact (s2 _).seq (s1.seq hS)) (fun i x H' hx e => ?_) (fun H' e => ?_)
      · subst e
        rw [List.getElem?_map, Option.map_eq_some_iff] at hx
        obtain ⟨n, hn, rfl⟩ := hx
        have et : ns.take (i + 1) = ns.take i ++ [n] := by rw [List.take_add_one, hn]; rfl
        refine ⟨rfl, ?_⟩
        unfold tYes
        show ite (true = true) _ _
        rw [if_pos rfl]
        refine ⟨_, rfl, n, 2147483629, rfl, rfl, (by decide : (0 : Int) < 2147483629), _, upd_same, ?_, ?_⟩
        · rw [List.length_map, List.length_map, List.length_take]
          omega
        · show _ = _
          rw [et, List.map_append, upd_upd, List.map_append]
          rfl
      · subst e
        rw [List.length_map, List.take_length]
        refine ⟨by show 4 ≤ sizeLine; omega, fun st nst => ?_⟩
        have gs : g ≠ st := fun z => by rw [← z, upd_ne gc, upd_same] at nst; cases nst
        have cs : c ≠ st := fun z => by rw [← z, upd_same] at nst; cases nst
        have s3 : Same (upd (upd H g (.lst ((ns.filter f).map V.int))) c (.lst ((ns.map (· % 2147483629)).map V.int))) (upd (upd (upd H g (.lst ((ns.filter f).map V.int))) c (.lst ((ns.map (· % 2147483629)).map V.int))) st (.lst [.ref g, .int 0, .ref c, .int 0])) := fun b x e => by
          rw [upd_ne (ne_of_none e nst)]; exact e
        have nst' : H st = none := by
          rw [upd_ne (fun z => cs z.symm), upd_ne (fun z => gs z.symm)] at nst; exact nst
        have nc' : H c = none := by
          rw [upd_ne (fun z => gc z.symm)] at nc; exact nc
        refine q st g c (ns.filter f) (ns.map (· % 2147483629)) _ nst' ng nc' (s1.trans ((s2 _).trans s3)) ⟨fun z => gs z.symm, fun z => cs z.symm, gc, upd_same, by rw [upd_ne gs, upd_ne gc, upd_same], by rw [upd_ne cs, upd_same]⟩ (fun x hx => ?_) (Nat.le_trans (List.length_filter_le _ _) hl) (fun x hx => ?_) (by rw [List.length_map]; exact hl)
        · have h1 : (10 : Int) ^ 18 ≤ x := of_decide_eq_true (List.mem_filter.mp hx).2
          omega
        · obtain ⟨y, _, rfl⟩ := List.mem_map.mp hx
          exact ⟨Int.emod_nonneg _ (by decide), Int.emod_lt_of_pos _ (by decide)⟩

theorem ok__law_draw (T : Txt K mg) : FnOk P w K mg base (L2.CX P w) 2 T.f__law_draw T.d__law_draw ["_law_state", "_law_many"] (spOf ⟨K, mg, noG⟩ sp__law_draw) := (ok_draw0 T).imp fun _ _ _ _ h => draw_imp h
theorem dd_chosen (T : Txt K mg) (cdv : Value) (A : Around) (outer : List Env) (s : Shared) (H : Hp) (E : XK) (hr : Room 0 (A.deeper (envOfC "chosen" (defScope s_chosen) s.heap.objs.size T.f_chosen cdv))) : PSsd (cxOf (L2.CX P w) P w K mg base ["numbers", "found", "code", "at", "number"] "chosen" (defScope s_chosen) T.f_chosen cdv A outer s H E) noG (fun cls d _ H => E cls d H) (defBody s_chosen) b_chosen :=
  have tk : Takes (cxOf (L2.CX P w) P w K mg base ["numbers", "found", "code", "at", "number"] "chosen" (defScope s_chosen) T.f_chosen cdv A outer s H E) (fun cls d _ H => E cls d H) := takes_of rfl rfl rfl rfl
  (z_cons (z_set (i := 1) sc_chosen.nd rfl (by first | exact .inl rfl | exact .inr rfl) (e_lst a_nil)) (z_cons (z_for (passes_of rfl) rfl (i_r1 (by rfl) T.z_range (a_cons (e_op op_shl s_shl e_int (e_cb call_len s_len (by rfl) T.z_len (by decide +kernel) (a_cons (e_var (pv 0)) a_nil))) a_nil)) (g_name (vs := [2]) sc_chosen.nd rfl (by first | exact .inl rfl | exact .inr rfl) (by decide)) (z_one (z_expr (e_mu PySem.F.slot_list_append PySem.F.type_list_append mt_append s_app (e_var (pv 1)) (a_cons (e_cty call_tupleF s_tuple (by rfl) T.z_tuple (by decide +kernel) (a_cons (e_comp (own := [("at", 3), ("number", 4)]) rfl sc_chosen.nd (i_enum (by rfl) T.z_enumerate (a_cons (e_frz (e_var (pv 0))) a_nil)) (@blkOk_by ["numbers", "found", "code", "at", "number"] (defScope s_chosen) _ _ (by decide +kernel)) (fun _ _ _ _ _ => (g_tup rfl (g_cons (g_name (vs := ([("at", 3), ("number", 4)] : List (Str × Nat)).map (·.2)) sc_chosen.nd rfl (by first | exact .inl rfl | exact .inr rfl) (by decide)) (g_cons (g_name (vs := ([("at", 3), ("number", 4)] : List (Str × Nat)).map (·.2)) sc_chosen.nd rfl (by first | exact .inl rfl | exact .inr rfl) (by decide)) g_nil)) rfl)) (fun _ _ _ _ _ => (ts_one (t_cmp (op_eqD hr.units) s_eq (e_op op_mod s_mod (e_op op_shr s_shr (e_var (pv 2)) (e_var (pv 3))) e_int) e_int (nomark _)))) (fun _ _ _ _ _ => (e_frz (e_var (pv 4))))) a_nil)) a_nil))))) (z_one (z_ret (e_var (pv 1))))))
theorem ok_chosen (T : Txt K mg) : FnOk P w K mg base (L2.CX P w) 1 T.f_chosen T.d_chosen ["numbers"] (spOf ⟨K, mg, noG⟩ sp_chosen) := fn_dt T.F_chosen sc_chosen (by intro os PP PX h; unfold sp_chosen at h; first | exact h.elim | (split at h <;> first | rfl | exact h.elim)) (fun cdv A outer s H E hr => dd_chosen T cdv A outer s H E hr) pf_chosen
theorem dd_choices_of (T : Txt K mg) (cdv : Value) (A : Around) (outer : List Env) (s : Shared) (H : Hp) (E : XK) (hr : Room 1 (A.deeper (envOfC "choices_of" (defScope s_choices_of) s.heap.objs.size T.f_choices_of cdv))) : PSsd (cxOf (L2.CX P w) P w K mg base ["rule"] "choices_of" (defScope s_choices_of) T.f_choices_of cdv A outer s H E) noG (fun cls d _ H => E cls d H) (defBody s_choices_of) b_choices_of :=
  have tk : Takes (cxOf (L2.CX P w) P w K mg base ["rule"] "choices_of" (defScope s_choices_of) T.f_choices_of cdv A outer s H E) (fun cls d _ H => E cls d H) := takes_of rfl rfl rfl rfl
  (z_one (z_ret (e_call (ok_chosen T) tk (hr.mono (by decide)) (by rfl) T.g_chosen T.F_chosen.kp T.b_chosen (a_cons (e_frz (e_lrg rfl (by rfl) T.z_list (by rfl) T.z_range (e_cb call_len s_len (by rfl) T.z_len (by decide +kernel) (a_cons (e_var (pv 0)) a_nil)))) a_nil))))
theorem ok_choices_of (T : Txt K mg) : FnOk P w K mg base (L2.CX P w) 2 T.f_choices_of T.d_choices_of ["rule"] (spOf ⟨K, mg, noG⟩ sp_choices_of) := fn_dt T.F_choices_of sc_choices_of (by intro os PP PX h; unfold sp_choices_of at h; first | exact h.elim | (split at h <;> first | rfl | exact h.elim)) (fun cdv A outer s H E hr => dd_choices_of T cdv A outer s H E hr) pf_choices_of
theorem dd_unlike_parts (T : Txt K mg) (cdv : Value) (A : Around) (outer : List Env) (s : Shared) (H : Hp) (E : XK) (hr : Room 0 (A.deeper (envOfC "unlike_parts" (defScope s_unlike_parts) s.heap.objs.size T.f_unlike_parts cdv))) : PSsd (cxOf (L2.CX P w) P w K mg base ["heaps", "seen", "heap", "part"] "unlike_parts" (defScope s_unlike_parts) T.f_unlike_parts cdv A outer s H E) noG (fun cls d _ H => E cls d H) (defBody s_unlike_parts) b_unlike_parts :=
  have tk : Takes (cxOf (L2.CX P w) P w K mg base ["heaps", "seen", "heap", "part"] "unlike_parts" (defScope s_unlike_parts) T.f_unlike_parts cdv A outer s H E) (fun cls d _ H => E cls d H) := takes_of rfl rfl rfl rfl
  (z_cons (z_set (i := 1) sc_unlike_parts.nd rfl (by first | exact .inl rfl | exact .inr rfl) e_dnew) (z_cons (z_for (passes_of rfl) rfl (i_seq (e_frz (e_var (pv 0)))) (g_name (vs := [2]) sc_unlike_parts.nd rfl (by first | exact .inl rfl | exact .inr rfl) (by decide)) (z_one (z_for (passes_of rfl) rfl (i_seq (e_frz (e_var (pv 2)))) (g_name (vs := [3]) sc_unlike_parts.nd rfl (by first | exact .inl rfl | exact .inr rfl) (by decide)) (z_one (z_dput (units1 hr) e_bl (e_var (pv 1)) (e_var (pv 3))))))) (z_one (z_ret (e_rev (e_cb cr_srt s_sort (by rfl) T.z_sorted (by decide +kernel) (a_cons (e_dlist rfl (by rfl) T.z_list (e_var (pv 1))) a_nil)))))))
theorem ok_unlike_parts (T : Txt K mg) : FnOk P w K mg base (L2.CX P w) 1 T.f_unlike_parts T.d_unlike_parts ["heaps"] (spOf ⟨K, mg, noG⟩ sp_unlike_parts) := fn_dt T.F_unlike_parts sc_unlike_parts (by intro os PP PX h; unfold sp_unlike_parts at h; first | exact h.elim | (split at h <;> first | rfl | exact h.elim)) (fun cdv A outer s H E hr => dd_unlike_parts T cdv A outer s H E hr) pf_unlike_parts
theorem dd_joined (T : Txt K mg) (cdv : Value) (A : Around) (outer : List Env) (s : Shared) (H : Hp) (E : XK) (hr : Room 1 (A.deeper (envOfC "joined" (defScope s_joined) s.heap.objs.size T.f_joined cdv))) : PSsd (cxOf (L2.CX P w) P w K mg base ["heaps", "found", "part", "heap"] "joined" (defScope s_joined) T.f_joined cdv A outer s H E) noG (fun cls d _ H => E cls d H) (defBody s_joined) b_joined :=
  have tk : Takes (cxOf (L2.CX P w) P w K mg base ["heaps", "found", "part", "heap"] "joined" (defScope s_joined) T.f_joined cdv A outer s H E) (fun cls d _ H => E cls d H) := takes_of rfl rfl rfl rfl
  (z_cons (z_set (i := 1) sc_joined.nd rfl (by first | exact .inl rfl | exact .inr rfl) (e_lst a_nil)) (z_cons (z_for (passes_of rfl) rfl (i_seq (e_call (ok_unlike_parts T) tk (hr.mono (by decide)) (by rfl) T.g_unlike_parts T.F_unlike_parts.kp T.b_unlike_parts (a_cons (e_frz (e_var (pv 0))) a_nil))) (g_name (vs := [2]) sc_joined.nd rfl (by first | exact .inl rfl | exact .inr rfl) (by decide)) (z_one (z_expr (e_mu PySem.F.slot_list_extend PySem.F.type_list_extend mt_extend s_ext (e_var (pv 1)) (a_cons (e_frz (e_op op_mulD s_mul (e_lst (a_cons (e_frz (e_var (pv 2))) a_nil)) (e_cb (cr_max rfl) s_max (by rfl) T.z_max (by decide +kernel) (a_cons (e_comp (own := [("heap", 3)]) rfl sc_joined.nd (i_seq (e_frz (e_var (pv 0)))) (@blkOk_by ["heaps", "found", "part", "heap"] (defScope s_joined) _ _ (by decide +kernel)) (fun _ _ _ _ _ => (g_name (vs := ([("heap", 3)] : List (Str × Nat)).map (·.2)) sc_joined.nd rfl (by first | exact .inl rfl | exact .inr rfl) (by decide))) (fun _ _ _ _ _ => ts_nil) (fun _ _ _ _ _ => (e_frz (e_cnt hr.units (e_var (pv 3)) (a_cons (e_var (pv 2)) a_nil))))) a_nil)))) a_nil))))) (z_one (z_ret (e_cty call_tupleF s_tuple (by rfl) T.z_tuple (by decide +kernel) (a_cons (e_var (pv 1)) a_nil))))))
theorem ok_joined (T : Txt K mg) : FnOk P w K mg base (L2.CX P w) 2 T.f_joined T.d_joined ["heaps"] (spOf ⟨K, mg, noG⟩ sp_joined) := fn_dt T.F_joined sc_joined (by intro os PP PX h; unfold sp_joined at h; first | exact h.elim | (split at h <;> first | rfl | exact h.elim)) (fun cdv A outer s H E hr => dd_joined T cdv A outer s H E hr) pf_joined
theorem dd_joined_of (T : Txt K mg) (cdv : Value) (A : Around) (outer : List Env) (s : Shared) (H : Hp) (E : XK) (hr : Room 2 (A.deeper (envOfC "joined_of" (defScope s_joined_of) s.heap.objs.size T.f_joined_of cdv))) : PSsd (cxOf (L2.CX P w) P w K mg base ["rule", "choice", "number"] "joined_of" (defScope s_joined_of) T.f_joined_of cdv A outer s H E) noG (fun cls d _ H => E cls d H) (defBody s_joined_of) b_joined_of :=
  have tk : Takes (cxOf (L2.CX P w) P w K mg base ["rule", "choice", "number"] "joined_of" (defScope s_joined_of) T.f_joined_of cdv A outer s H E) (fun cls d _ H => E cls d H) := takes_of rfl rfl rfl rfl
  (z_one (z_ret (e_call (ok_joined T) tk (hr.mono (by decide)) (by rfl) T.g_joined T.F_joined.kp T.b_joined (a_cons (e_frz (e_comp (own := [("number", 2)]) rfl sc_joined_of.nd (i_seq (e_frz (e_var (pv 1)))) (@blkOk_by ["rule", "choice", "number"] (defScope s_joined_of) _ _ (by decide +kernel)) (fun _ _ _ _ _ => (g_name (vs := ([("number", 2)] : List (Str × Nat)).map (·.2)) sc_joined_of.nd rfl (by first | exact .inl rfl | exact .inr rfl) (by decide))) (fun _ _ _ _ _ => ts_nil) (fun _ _ _ _ _ => (e_frz (e_ix (e_var (pv 0)) (e_var (pv 2))))))) a_nil))))
theorem ok_joined_of (T : Txt K mg) : FnOk P w K mg base (L2.CX P w) 3 T.f_joined_of T.d_joined_of ["rule", "choice"] (spOf ⟨K, mg, noG⟩ sp_joined_of) := fn_dt T.F_joined_of sc_joined_of (by intro os PP PX h; unfold sp_joined_of at h; first | exact h.elim | (split at h <;> first | rfl | exact h.elim)) (fun cdv A outer s H E hr => dd_joined_of T cdv A outer s H E hr) pf_joined_of
theorem dd_sum_of (T : Txt K mg) (cdv : Value) (A : Around) (outer : List Env) (s : Shared) (H : Hp) (E : XK) (hr : Room 0 (A.deeper (envOfC "sum_of" (defScope s_sum_of) s.heap.objs.size T.f_sum_of cdv))) : PSsd (cxOf (L2.CX P w) P w K mg base ["heap"] "sum_of" (defScope s_sum_of) T.f_sum_of cdv A outer s H E) noG (fun cls d _ H => E cls d H) (defBody s_sum_of) b_sum_of :=
  have tk : Takes (cxOf (L2.CX P w) P w K mg base ["heap"] "sum_of" (defScope s_sum_of) T.f_sum_of cdv A outer s H E) (fun cls d _ H => E cls d H) := takes_of rfl rfl rfl rfl
  (z_one (z_ret (e_cb (cr_sumD rfl) s_sum (by rfl) T.z_sum (by decide +kernel) (a_cons (e_cty call_list_of s_list (by rfl) T.z_list (by decide +kernel) (a_cons (e_var (pv 0)) a_nil)) a_nil))))
theorem ok_sum_of (T : Txt K mg) : FnOk P w K mg base (L2.CX P w) 1 T.f_sum_of T.d_sum_of ["heap"] (spOf ⟨K, mg, noG⟩ sp_sum_of) := fn_dt T.F_sum_of sc_sum_of (by intro os PP PX h; unfold sp_sum_of at h; first | exact h.elim | (split at h <;> first | rfl | exact h.elim)) (fun cdv A outer s H E hr => dd_sum_of T cdv A outer s H E hr) pf_sum_of
theorem dd_sums_of (T : Txt K mg) (cdv : Value) (A : Around) (outer : List Env) (s : Shared) (H : Hp) (E : XK) (hr : Room 3 (A.deeper (envOfC "sums_of" (defScope s_sums_of) s.heap.objs.size T.f_sums_of cdv))) : PSsd (cxOf (L2.CX P w) P w K mg base ["rule", "choice"] "sums_of" (defScope s_sums_of) T.f_sums_of cdv A outer s H E) noG (fun cls d _ H => E cls d H) (defBody s_sums_of) b_sums_of :=
  have tk : Takes (cxOf (L2.CX P w) P w K mg base ["rule", "choice"] "sums_of" (defScope s_sums_of) T.f_sums_of cdv A outer s H E) (fun cls d _ H => E cls d H) := takes_of rfl rfl rfl rfl
  (z_one (z_ret (e_comp (own := [("choice", 1)]) rfl sc_sums_of.nd (i_seq (e_call (ok_choices_of T) tk (hr.mono (by decide)) (by rfl) T.g_choices_of T.F_choices_of.kp T.b_choices_of (a_cons (e_frz (e_var (pv 0))) a_nil))) (@blkOk_by ["rule", "choice"] (defScope s_sums_of) _ _ (by decide +kernel)) (fun _ _ _ _ _ => (g_name (vs := ([("choice", 1)] : List (Str × Nat)).map (·.2)) sc_sums_of.nd rfl (by first | exact .inl rfl | exact .inr rfl) (by decide))) (fun _ _ _ _ _ => ts_nil) (fun _ _ _ _ _ => (e_tup (a_cons (e_frz (e_var (pv 1))) (a_cons (e_frz (e_call (ok_sum_of T) takes0 (hr.mono (by decide)) (by rfl) T.g_sum_of T.F_sum_of.kp T.b_sum_of (a_cons (e_frz (e_call (ok_joined_of T) takes0 (hr.mono (by decide)) (by rfl) T.g_joined_of T.F_joined_of.kp T.b_joined_of (a_cons (e_frz (e_var (pv 0))) (a_cons (e_frz (e_var (pv 1))) a_nil)))) a_nil))) a_nil)))))))
theorem ok_sums_of (T : Txt K mg) : FnOk P w K mg base (L2.CX P w) 4 T.f_sums_of T.d_sums_of ["rule"] (spOf ⟨K, mg, noG⟩ sp_sums_of) := fn_dt T.F_sums_of sc_sums_of (by intro os PP PX h; unfold sp_sums_of at h; first | exact h.elim | (split at h <;> first | rfl | exact h.elim)) (fun cdv A outer s H E hr => dd_sums_of T cdv A outer s H E hr) pf_sums_of
theorem dd_first_unlike (T : Txt K mg) (cdv : Value) (A : Around) (outer : List Env) (s : Shared) (H : Hp) (E : XK) (hr : Room 4 (A.deeper (envOfC "first_unlike" (defScope s_first_unlike) s.heap.objs.size T.f_first_unlike cdv))) : PSsd (cxOf (L2.CX P w) P w K mg base ["one", "other", "choice", "mine", "same", "theirs"] "first_unlike" (defScope s_first_unlike) T.f_first_unlike cdv A outer s H E) noG (fun cls d _ H => E cls d H) (defBody s_first_unlike) b_first_unlike :=
  have tk : Takes (cxOf (L2.CX P w) P w K mg base ["one", "other", "choice", "mine", "same", "theirs"] "first_unlike" (defScope s_first_unlike) T.f_first_unlike cdv A outer s H E) (fun cls d _ H => E cls d H) := takes_of rfl rfl rfl rfl
  (z_cons (z_if (t_cmp (op_neD hr.units) s_ne (e_cb call_len s_len (by rfl) T.z_len (by decide +kernel) (a_cons (e_var (pv 0)) a_nil)) (e_cb call_len s_len (by rfl) T.z_len (by decide +kernel) (a_cons (e_var (pv 1)) a_nil)) (nomark _)) (z_one (z_raise (n := 9) T.xf rfl tk (by decide) (by decide) rfl (by rfl))) z_nil) (z_cons (z_for (passes_of rfl) rfl (i_zip (by rfl) T.z_zip (a_cons (e_frz (e_call (ok_sums_of T) tk (hr.mono (by decide)) (by rfl) T.g_sums_of T.F_sums_of.kp T.b_sums_of (a_cons (e_frz (e_var (pv 0))) a_nil))) (a_cons (e_frz (e_call (ok_sums_of T) tk (hr.mono (by decide)) (by rfl) T.g_sums_of T.F_sums_of.kp T.b_sums_of (a_cons (e_frz (e_var (pv 1))) a_nil))) a_nil))) (g_tup rfl (g_cons (g_strong (g_tup rfl (g_cons (g_name (vs := [2, 3, 4, 5]) sc_first_unlike.nd rfl (by first | exact .inl rfl | exact .inr rfl) (by decide)) (g_cons (g_name (vs := [2, 3, 4, 5]) sc_first_unlike.nd rfl (by first | exact .inl rfl | exact .inr rfl) (by decide)) g_nil)) rfl)) (g_cons (g_strong (g_tup rfl (g_cons (g_name (vs := [2, 3, 4, 5]) sc_first_unlike.nd rfl (by first | exact .inl rfl | exact .inr rfl) (by decide)) (g_cons (g_name (vs := [2, 3, 4, 5]) sc_first_unlike.nd rfl (by first | exact .inl rfl | exact .inr rfl) (by decide)) g_nil)) rfl)) g_nil)) rfl) (z_one (z_if (t_cmp (op_neD hr.units) s_ne (e_var (pv 3)) (e_var (pv 5)) (nomark _)) (z_one (z_ret (e_tup (a_cons (e_frz (e_var (pv 2))) (a_cons (e_frz (e_var (pv 3))) (a_cons (e_frz (e_var (pv 5))) a_nil)))))) z_nil))) (z_stp (z_one (z_ret e_non)))))
theorem ok_first_unlike (T : Txt K mg) : FnOk P w K mg base (L2.CX P w) 5 T.f_first_unlike T.d_first_unlike ["one", "other"] (spOf ⟨K, mg, noG⟩ sp_first_unlike) := fn_dt T.F_first_unlike sc_first_unlike (by intro os PP PX h; unfold sp_first_unlike at h; first | exact h.elim | (split at h <;> first | rfl | exact h.elim)) (fun cdv A outer s H E hr => dd_first_unlike T cdv A outer s H E hr) pf_first_unlike
theorem dd_Beside (T : Txt K mg) (cdv : Value) (A : Around) (outer : List Env) (s : Shared) (H : Hp) (E : XK) (hr : Room 5 (A.deeper (envOfC "Beside.__init__" (defScope s_Beside) s.heap.objs.size T.f_Beside cdv))) :
    PSs (cxOf (L2.CX P w) P w K mg base ["self", "one", "other", "unlike"] "Beside.__init__" (defScope s_Beside) T.f_Beside cdv A outer s H E) (defBody s_Beside) (tSeq (tAsg (tE ⟨K, mg, noG⟩ (fun cls d _ H => E cls d H) bf_Beside) (gName 3)) (tSeq (tIfS (tT ⟨K, mg, noG⟩ (fun cls d _ H => E cls d H) bt_Beside) (tS ⟨K, mg, noG⟩ (fun cls d _ H => E cls d H) bb_Beside) tNext) (tSeq (sFld K (tVar 0) (tVar 1) "left") (sFld K (tVar 0) (tVar 2) "right")))) :=
  have tk : Takes (cxOf (L2.CX P w) P w K mg base ["self", "one", "other", "unlike"] "Beside.__init__" (defScope s_Beside) T.f_Beside cdv A outer s H E) (fun cls d _ H => E cls d H) := takes_of rfl rfl rfl rfl
  pss_cons (ps_set (i := 3) sc_Beside.nd rfl (by first | exact .inl rfl | exact .inr rfl) (e_call (ok_first_unlike T) tk (hr.mono (by decide)) (by rfl) T.g_first_unlike T.F_first_unlike.kp T.b_first_unlike (a_cons (e_frz (e_var (pv 1))) (a_cons (e_frz (e_var (pv 2))) a_nil)))) (pss_cons (ps_if (t_cmp op_isNotD s_isNot (e_var (pv 3)) e_non (nomark _)) (z_one (z_raiseF (n := 19) (fs := ["choice", "one", "other"]) T.xf rfl tk (by decide) (ini_19 T) rfl (hr.mono (by decide)) (by rfl) (by decide) (by decide) (a_cons (e_frz (e_ix (e_var (pv 3)) e_int)) (a_cons (e_frz (e_ix (e_var (pv 3)) e_int)) (a_cons (e_frz (e_ix (e_var (pv 3)) e_int)) a_nil))))) pss_nil) (pss_cons (ps_fld (pv 0) (pv 1) rfl) (pss_one (ps_fld (pv 0) (pv 2) rfl))))
theorem ok_Beside (T : Txt K mg) : FnOk P w K mg base (L2.CX P w) 6 T.f_Beside T.d_Beside ["self", "one", "other"] (spMk ⟨K, mg, noG⟩ T.cB sp_Beside) := fn_ini T.F_Beside sc_Beside rfl rfl T.bes (fun cdv A outer s H E hr => dd_Beside T cdv A outer s H E hr) pf_Beside
theorem dd_Beside_back (T : Txt K mg) (cdv : Value) (A : Around) (outer : List Env) (s : Shared) (H : Hp) (E : XK) (hr : Room 7 (A.deeper (envOfC "Beside.back" (defScope s_Beside_back) s.heap.objs.size T.f_Beside_back cdv))) : PSsd (cxOf (L2.CX P w) P w K mg base ["self"] "Beside.back" (defScope s_Beside_back) T.f_Beside_back cdv A outer s H E) noG (fun cls d _ H => E cls d H) (defBody s_Beside_back) b_Beside_back :=
  have tk : Takes (cxOf (L2.CX P w) P w K mg base ["self"] "Beside.back" (defScope s_Beside_back) T.f_Beside_back cdv A outer s H E) (fun cls d _ H => E cls d H) := takes_of rfl rfl rfl rfl
  (z_one (z_ret (e_make T.bes T.mk_Beside (ok_Beside T) tk (hr.mono (by decide)) (by rfl) T.b_Beside two_Beside (a_cons (e_frz (e_fldR T.bes (e_var (pv 0)))) (a_cons (e_frz (e_fldL T.bes (e_var (pv 0)))) a_nil)))))
theorem ok_Beside_back (T : Txt K mg) : FnOk P w K mg base (L2.CX P w) 8 T.f_Beside_back T.d_Beside_back ["self"] (spOf ⟨K, mg, noG⟩ sp_Beside_back) := fn_dt T.F_Beside_back sc_Beside_back (by intro os PP PX h; unfold sp_Beside_back at h; first | exact h.elim | (split at h <;> first | rfl | exact h.elim)) (fun cdv A outer s H E hr => dd_Beside_back T cdv A outer s H E hr) pf_Beside_back
theorem dd__law_lies (T : Txt K mg) (cdv : Value) (A : Around) (outer : List Env) (s : Shared) (H : Hp) (E : XK) (hr : Room 0 (A.deeper (envOfC "_law_lies" (defScope s__law_lies) s.heap.objs.size T.f__law_lies cdv))) : PSsd (cxOf (L2.CX P w) P w K mg base ["_law_one", "_law_other", "_law_part"] "_law_lies" (defScope s__law_lies) T.f__law_lies cdv A outer s H E) noG (fun cls d _ H => E cls d H) (defBody s__law_lies) b__law_lies :=
  have tk : Takes (cxOf (L2.CX P w) P w K mg base ["_law_one", "_law_other", "_law_part"] "_law_lies" (defScope s__law_lies) T.f__law_lies cdv A outer s H E) (fun cls d _ H => E cls d H) := takes_of rfl rfl rfl rfl
  (z_one (z_ret (e_cb (cr_all rfl) s_all (by rfl) T.z_all (by decide +kernel) (a_cons (e_comp (own := [("_law_part", 2)]) rfl sc__law_lies.nd (i_seq (e_frz (e_var (pv 0)))) (@blkOk_by ["_law_one", "_law_other", "_law_part"] (defScope s__law_lies) _ _ (by decide +kernel)) (fun _ _ _ _ _ => (g_name (vs := ([("_law_part", 2)] : List (Str × Nat)).map (·.2)) sc__law_lies.nd rfl (by first | exact .inl rfl | exact .inr rfl) (by decide))) (fun _ _ _ _ _ => ts_nil) (fun _ _ _ _ _ => (e_cmp op_le s_le (e_cnt hr.units (e_var (pv 0)) (a_cons (e_var (pv 2)) a_nil)) (e_cnt hr.units (e_var (pv 1)) (a_cons (e_var (pv 2)) a_nil)) (nomark _)))) a_nil))))
theorem ok__law_lies (T : Txt K mg) : FnOk P w K mg base (L2.CX P w) 1 T.f__law_lies T.d__law_lies ["_law_one", "_law_other"] (spOf ⟨K, mg, noG⟩ sp__law_lies) := fn_dt T.F__law_lies sc__law_lies (by intro os PP PX h; unfold sp__law_lies at h; first | exact h.elim | (split at h <;> first | rfl | exact h.elim)) (fun cdv A outer s H E hr => dd__law_lies T cdv A outer s H E hr) pf__law_lies
theorem dd__law_first (T : Txt K mg) (cdv : Value) (A : Around) (outer : List Env) (s : Shared) (H : Hp) (E : XK) (hr : Room 1 (A.deeper (envOfC "_law_first" (defScope s__law_first) s.heap.objs.size T.f__law_first cdv))) : PSsd (cxOf (L2.CX P w) P w K mg base ["_law_rule_here", "_law_heap_here", "_law_number"] "_law_first" (defScope s__law_first) T.f__law_first cdv A outer s H E) noG (fun cls d _ H => E cls d H) (defBody s__law_first) b__law_first :=
  have tk : Takes (cxOf (L2.CX P w) P w K mg base ["_law_rule_here", "_law_heap_here", "_law_number"] "_law_first" (defScope s__law_first) T.f__law_first cdv A outer s H E) (fun cls d _ H => E cls d H) := takes_of rfl rfl rfl rfl
  (z_cons (z_for (passes_of rfl) rfl (i_r1 (by rfl) T.z_range (a_cons (e_cb call_len s_len (by rfl) T.z_len (by decide +kernel) (a_cons (e_var (pv 0)) a_nil)) a_nil)) (g_name (vs := [2]) sc__law_first.nd rfl (by first | exact .inl rfl | exact .inr rfl) (by decide)) (z_one (z_if (t_tru (e_call (ok__law_lies T) tk (hr.mono (by decide)) (by rfl) T.g__law_lies T.F__law_lies.kp T.b__law_lies (a_cons (e_frz (e_ix (e_var (pv 0)) (e_var (pv 2)))) (a_cons (e_frz (e_var (pv 1))) a_nil)))) (z_one (z_ret (e_var (pv 2)))) z_nil))) (z_one (z_ret e_non)))
theorem ok__law_first (T : Txt K mg) : FnOk P w K mg base (L2.CX P w) 2 T.f__law_first T.d__law_first ["_law_rule_here", "_law_heap_here"] (spOf ⟨K, mg, noG⟩ sp__law_first) := fn_dt T.F__law_first sc__law_first (by intro os PP PX h; unfold sp__law_first at h; first | exact h.elim | (split at h <;> first | rfl | exact h.elim)) (fun cdv A outer s H E hr => dd__law_first T cdv A outer s H E hr) pf__law_first
theorem dd__law_heap (T : Txt K mg) (cdv : Value) (A : Around) (outer : List Env) (s : Shared) (H : Hp) (E : XK) (hr : Room 2 (A.deeper (envOfC "_law_heap" (defScope s__law_heap) s.heap.objs.size T.f__law_heap cdv))) : PSsd (cxOf (L2.CX P w) P w K mg base ["_law_state", "_law_size", "_law_top", "_law_parts", "_law_k"] "_law_heap" (defScope s__law_heap) T.f__law_heap cdv A outer s H E) noG (fun cls d _ H => E cls d H) (defBody s__law_heap) b__law_heap :=
  have tk : Takes (cxOf (L2.CX P w) P w K mg base ["_law_state", "_law_size", "_law_top", "_law_parts", "_law_k"] "_law_heap" (defScope s__law_heap) T.f__law_heap cdv A outer s H E) (fun cls d _ H => E cls d H) := takes_of rfl rfl rfl rfl
  (z_cons (z_setComp (j := 3) (hyl := rfl) (hy := rfl) (hsw := sw_true rfl rfl rfl (by decide +kernel)) (own := [("_law_k", 4)]) rfl sc__law_heap.nd (i_r1 (by rfl) T.z_range (a_cons (e_callM (ok__law_draw T) tk (hr.mono (by decide)) (by rfl) T.g__law_draw T.F__law_draw.kp T.b__law_draw (a_cons (e_var (pv 0)) (a_cons (e_frz (e_op op_addD s_add (e_var (pv 1)) e_int)) a_nil))) a_nil)) (@blkOk_by ["_law_state", "_law_size", "_law_top", "_law_parts", "_law_k"] (defScope s__law_heap) _ _ (by decide +kernel)) (fun _ _ _ _ _ => (g_name (vs := ([("_law_k", 4)] : List (Str × Nat)).map (·.2)) sc__law_heap.nd rfl (by first | exact .inl rfl | exact .inr rfl) (by decide))) (fun _ _ _ _ _ => ts_nil) (fun _ _ _ _ _ => (e_frz (e_op op_addD s_add e_int (e_callM (ok__law_draw T) takes0 (hr.mono (by decide)) (by rfl) T.g__law_draw T.F__law_draw.kp T.b__law_draw (a_cons (e_var (pv 0)) (a_cons (e_frz (e_var (pv 2))) a_nil))))))) (z_one (z_ret (e_cty call_tupleF s_tuple (by rfl) T.z_tuple (by decide +kernel) (a_cons (e_sortR (by rfl) T.z_sorted (a_cons (e_var (pv 3)) a_nil)) a_nil)))))
theorem ok__law_heap (T : Txt K mg) : FnOk P w K mg base (L2.CX P w) 3 T.f__law_heap T.d__law_heap ["_law_state", "_law_size", "_law_top"] (spOf ⟨K, mg, noG⟩ sp__law_heap) := fn_dt T.F__law_heap sc__law_heap (by intro os PP PX h; unfold sp__law_heap at h; first | exact h.elim | (split at h <;> first | rfl | exact h.elim)) (fun cdv A outer s H E hr => dd__law_heap T cdv A outer s H E hr) pf__law_heap
theorem dd__law_held (T : Txt K mg) (cdv : Value) (A : Around) (outer : List Env) (s : Shared) (H : Hp) (E : XK) (hr : Room 7 (A.deeper (envOfC "_law_held" (defScope s__law_held) s.heap.objs.size T.f__law_held cdv))) : PSsd (cxOf (L2.CX P w) P w K mg base ["_law_one", "_law_other", "_law_sided"] "_law_held" (defScope s__law_held) T.f__law_held cdv A outer s H E) noG (fun cls d _ H => E cls d H) (defBody s__law_held) b__law_held :=
  have tk : Takes (cxOf (L2.CX P w) P w K mg base ["_law_one", "_law_other", "_law_sided"] "_law_held" (defScope s__law_held) T.f__law_held cdv A outer s H E) (fun cls d _ H => E cls d H) := takes_of rfl rfl rfl rfl
  (z_cons (z_set (i := 2) sc__law_held.nd rfl (by first | exact .inl rfl | exact .inr rfl) e_non) (z_cons (z_try T.xf rfl rfl sc__law_held.nd tk (fun W pn xe tk _ => (z_one (z_set (i := 2) sc__law_held.nd rfl (by first | exact .inl rfl | exact .inr rfl) (e_make T.bes T.mk_Beside (ok_Beside T) tk (hr.mono (by decide)) (by rfl) T.b_Beside two_Beside (a_cons (e_frz (e_var (pv 0))) (a_cons (e_frz (e_var (pv 1))) a_nil)))))) (.bare (T := 19) rfl (by decide) (by rfl) (by decide) (fun a oe cls d pn hz hf => (z_one (z_set (i := 2) sc__law_held.nd rfl (by first | exact .inl rfl | exact .inr rfl) e_non))) .nil) z_nil) (z_one (z_ret (e_var (pv 2))))))
theorem ok__law_held (T : Txt K mg) : FnOk P w K mg base (L2.CX P w) 8 T.f__law_held T.d__law_held ["_law_one", "_law_other"] (spOf ⟨K, mg, noG⟩ sp__law_held) := fn_dt T.F__law_held sc__law_held (by intro os PP PX h; unfold sp__law_held at h; first | exact h.elim | (split at h <;> first | rfl | exact h.elim)) (fun cdv A outer s H E hr => dd__law_held T cdv A outer s H E hr) pf__law_held
theorem dd__law_choices (T : Txt K mg) (cdv : Value) (A : Around) (outer : List Env) (s : Shared) (H : Hp) (E : XK) (hr : Room 0 (A.deeper (envOfC "_law_choices" (defScope s__law_choices) s.heap.objs.size T.f__law_choices cdv))) : PSsd (cxOf (L2.CX P w) P w K mg base ["_law_many", "_law_found", "_law_number", "_law_choice"] "_law_choices" (defScope s__law_choices) T.f__law_choices cdv A outer s H E) noG (fun cls d _ H => E cls d H) (defBody s__law_choices) b__law_choices :=
  have tk : Takes (cxOf (L2.CX P w) P w K mg base ["_law_many", "_law_found", "_law_number", "_law_choice"] "_law_choices" (defScope s__law_choices) T.f__law_choices cdv A outer s H E) (fun cls d _ H => E cls d H) := takes_of rfl rfl rfl rfl
  (z_cons (z_set (i := 1) sc__law_choices.nd rfl (by first | exact .inl rfl | exact .inr rfl) (e_lst (a_cons (e_tup a_nil) a_nil))) (z_cons (z_for (passes_of rfl) rfl (i_r1 (by rfl) T.z_range (a_cons (e_var (pv 0)) a_nil)) (g_name (vs := [2]) sc__law_choices.nd rfl (by first | exact .inl rfl | exact .inr rfl) (by decide)) (z_one (z_set (i := 1) sc__law_choices.nd rfl (by first | exact .inl rfl | exact .inr rfl) (e_op op_addD s_add (e_var (pv 1)) (e_comp (own := [("_law_choice", 3)]) rfl sc__law_choices.nd (i_seq (e_frz (e_var (pv 1)))) (@blkOk_by ["_law_many", "_law_found", "_law_number", "_law_choice"] (defScope s__law_choices) _ _ (by decide +kernel)) (fun _ _ _ _ _ => (g_name (vs := ([("_law_choice", 3)] : List (Str × Nat)).map (·.2)) sc__law_choices.nd rfl (by first | exact .inl rfl | exact .inr rfl) (by decide))) (fun _ _ _ _ _ => ts_nil) (fun _ _ _ _ _ => (e_frz (e_op op_addD s_add (e_var (pv 3)) (e_tup (a_cons (e_frz (e_var (pv 2))) a_nil)))))))))) (z_one (z_ret (e_var (pv 1))))))
theorem ok__law_choices (T : Txt K mg) : FnOk P w K mg base (L2.CX P w) 1 T.f__law_choices T.d__law_choices ["_law_many"] (spOf ⟨K, mg, noG⟩ sp__law_choices) := fn_dt T.F__law_choices sc__law_choices (by intro os PP PX h; unfold sp__law_choices at h; first | exact h.elim | (split at h <;> first | rfl | exact h.elim)) (fun cdv A outer s H E hr => dd__law_choices T cdv A outer s H E hr) pf__law_choices
theorem dd__law_joined (T : Txt K mg) (cdv : Value) (A : Around) (outer : List Env) (s : Shared) (H : Hp) (E : XK) (hr : Room 0 (A.deeper (envOfC "_law_joined" (defScope s__law_joined) s.heap.objs.size T.f__law_joined cdv))) : PSsd (cxOf (L2.CX P w) P w K mg base ["_law_heaps", "_law_found", "_law_heap_here", "_law_part"] "_law_joined" (defScope s__law_joined) T.f__law_joined cdv A outer s H E) noG (fun cls d _ H => E cls d H) (defBody s__law_joined) b__law_joined :=
  have tk : Takes (cxOf (L2.CX P w) P w K mg base ["_law_heaps", "_law_found", "_law_heap_here", "_law_part"] "_law_joined" (defScope s__law_joined) T.f__law_joined cdv A outer s H E) (fun cls d _ H => E cls d H) := takes_of rfl rfl rfl rfl
  (z_cons (z_set (i := 1) sc__law_joined.nd rfl (by first | exact .inl rfl | exact .inr rfl) (e_lst a_nil)) (z_cons (z_for (passes_of rfl) rfl (i_seq (e_frz (e_var (pv 0)))) (g_name (vs := [2]) sc__law_joined.nd rfl (by first | exact .inl rfl | exact .inr rfl) (by decide)) (z_one (z_for (passes_of rfl) rfl (i_seq (e_frz (e_var (pv 2)))) (g_name (vs := [3]) sc__law_joined.nd rfl (by first | exact .inl rfl | exact .inr rfl) (by decide)) (z_one (z_if (t_cmp (op_ltD hr.units) s_lt (e_cnt hr.units (e_var (pv 1)) (a_cons (e_var (pv 3)) a_nil)) (e_cnt hr.units (e_var (pv 2)) (a_cons (e_var (pv 3)) a_nil)) (nomark _)) (z_one (z_expr (e_mu PySem.F.slot_list_append PySem.F.type_list_append mt_append s_app (e_var (pv 1)) (a_cons (e_frz (e_var (pv 3))) a_nil)))) z_nil))))) (z_one (z_ret (e_cty call_tupleF s_tuple (by rfl) T.z_tuple (by decide +kernel) (a_cons (e_sortR (by rfl) T.z_sorted (a_cons (e_var (pv 1)) a_nil)) a_nil))))))
theorem ok__law_joined (T : Txt K mg) : FnOk P w K mg base (L2.CX P w) 1 T.f__law_joined T.d__law_joined ["_law_heaps"] (spOf ⟨K, mg, noG⟩ sp__law_joined) := fn_dt T.F__law_joined sc__law_joined (by intro os PP PX h; unfold sp__law_joined at h; first | exact h.elim | (split at h <;> first | rfl | exact h.elim)) (fun cdv A outer s H E hr => dd__law_joined T cdv A outer s H E hr) pf__law_joined
theorem dd__law_match (T : Txt K mg) (cdv : Value) (A : Around) (outer : List Env) (s : Shared) (H : Hp) (E : XK) (hr : Room 1 (A.deeper (envOfC "_law_match" (defScope s__law_match) s.heap.objs.size T.f__law_match cdv))) : PSsd (cxOf (L2.CX P w) P w K mg base ["_law_one", "_law_other", "_law_choice", "_law_mine", "_law_number"] "_law_match" (defScope s__law_match) T.f__law_match cdv A outer s H E) noG (fun cls d _ H => E cls d H) (defBody s__law_match) b__law_match :=
  have tk : Takes (cxOf (L2.CX P w) P w K mg base ["_law_one", "_law_other", "_law_choice", "_law_mine", "_law_number"] "_law_match" (defScope s__law_match) T.f__law_match cdv A outer s H E) (fun cls d _ H => E cls d H) := takes_of rfl rfl rfl rfl
  (z_cons (z_for (passes_of rfl) rfl (i_seq (e_call (ok__law_choices T) tk (hr.mono (by decide)) (by rfl) T.g__law_choices T.F__law_choices.kp T.b__law_choices (a_cons (e_cb call_len s_len (by rfl) T.z_len (by decide +kernel) (a_cons (e_var (pv 0)) a_nil)) a_nil))) (g_name (vs := [2]) sc__law_match.nd rfl (by first | exact .inl rfl | exact .inr rfl) (by decide)) (z_cons (z_set (i := 3) sc__law_match.nd rfl (by first | exact .inl rfl | exact .inr rfl) (e_cb (cr_sumD rfl) s_sum (by rfl) T.z_sum (by decide +kernel) (a_cons (e_call (ok__law_joined T) tk (hr.mono (by decide)) (by rfl) T.g__law_joined T.F__law_joined.kp T.b__law_joined (a_cons (e_frz (e_comp (own := [("_law_number", 4)]) rfl sc__law_match.nd (i_seq (e_frz (e_var (pv 2)))) (@blkOk_by ["_law_one", "_law_other", "_law_choice", "_law_mine", "_law_number"] (defScope s__law_match) _ _ (by decide +kernel)) (fun _ _ _ _ _ => (g_name (vs := ([("_law_number", 4)] : List (Str × Nat)).map (·.2)) sc__law_match.nd rfl (by first | exact .inl rfl | exact .inr rfl) (by decide))) (fun _ _ _ _ _ => ts_nil) (fun _ _ _ _ _ => (e_frz (e_ix (e_var (pv 0)) (e_var (pv 4))))))) a_nil)) a_nil))) (z_one (z_if (t_cmp (op_neD hr.units) s_ne (e_var (pv 3)) (e_cb (cr_sumD rfl) s_sum (by rfl) T.z_sum (by decide +kernel) (a_cons (e_call (ok__law_joined T) tk (hr.mono (by decide)) (by rfl) T.g__law_joined T.F__law_joined.kp T.b__law_joined (a_cons (e_frz (e_comp (own := [("_law_number", 4)]) rfl sc__law_match.nd (i_seq (e_frz (e_var (pv 2)))) (@blkOk_by ["_law_one", "_law_other", "_law_choice", "_law_mine", "_law_number"] (defScope s__law_match) _ _ (by decide +kernel)) (fun _ _ _ _ _ => (g_name (vs := ([("_law_number", 4)] : List (Str × Nat)).map (·.2)) sc__law_match.nd rfl (by first | exact .inl rfl | exact .inr rfl) (by decide))) (fun _ _ _ _ _ => ts_nil) (fun _ _ _ _ _ => (e_frz (e_ix (e_var (pv 1)) (e_var (pv 4))))))) a_nil)) a_nil)) (nomark _)) (z_one (z_ret e_bl)) z_nil)))) (z_stp (z_one (z_ret e_bl))))
theorem ok__law_match (T : Txt K mg) : FnOk P w K mg base (L2.CX P w) 2 T.f__law_match T.d__law_match ["_law_one", "_law_other"] (spOf ⟨K, mg, noG⟩ sp__law_match) := fn_dt T.F__law_match sc__law_match (by intro os PP PX h; unfold sp__law_match at h; first | exact h.elim | (split at h <;> first | rfl | exact h.elim)) (fun cdv A outer s H E hr => dd__law_match T cdv A outer s H E hr) pf__law_match
theorem dd__law_partings (T : Txt K mg) (k : Nat) (self : FnOk P w K mg base (L2.CX P w) (0 + k) T.f__law_partings T.d__law_partings ["_law_n", "_law_top"] (spOf ⟨K, mg, noG⟩ (sp__law_partings k))) (cdv : Value) (A : Around) (outer : List Env) (s : Shared) (H : Hp) (E : XK) (hr : Room (0 + k) (A.deeper (envOfC "_law_partings" (defScope s__law_partings) s.heap.objs.size T.f__law_partings cdv))) : PSsd (cxOf (L2.CX P w) P w K mg base ["_law_n", "_law_top", "_law_found", "_law_part", "_law_rest"] "_law_partings" (defScope s__law_partings) T.f__law_partings cdv A outer s H E) noG (fun cls d _ H => E cls d H) (defBody s__law_partings) (b__law_partings k) :=
  have tk : Takes (cxOf (L2.CX P w) P w K mg base ["_law_n", "_law_top", "_law_found", "_law_part", "_law_rest"] "_law_partings" (defScope s__law_partings) T.f__law_partings cdv A outer s H E) (fun cls d _ H => E cls d H) := takes_of rfl rfl rfl rfl
  (z_cons (z_if (t_cmp (op_eqD hr.units) s_eq (e_var (pv 0)) e_int (nomark _)) (z_one (z_ret (e_lst (a_cons (e_tup a_nil) a_nil)))) z_nil) (z_cons (z_set (i := 2) sc__law_partings.nd rfl (by first | exact .inl rfl | exact .inr rfl) (e_lst a_nil)) (z_cons (z_for (passes_of rfl) rfl (i_r3 (by rfl) T.z_range (a_cons (e_cb (call_min2 rfl) s_min2 (by rfl) T.z_min (by decide +kernel) (a_cons (e_var (pv 0)) (a_cons (e_var (pv 1)) a_nil))) (a_cons e_int (a_cons (e_un un_neg s_neg e_int) a_nil)))) (g_name (vs := [3]) sc__law_partings.nd rfl (by first | exact .inl rfl | exact .inr rfl) (by decide)) (z_one (z_expr (e_mu PySem.F.slot_list_extend PySem.F.type_list_extend mt_extend s_ext (e_var (pv 2)) (a_cons (e_frz (e_comp (own := [("_law_rest", 4)]) rfl sc__law_partings.nd (i_seq (e_call self tk (hr.mono (by omega)) (by rfl) T.g__law_partings T.F__law_partings.kp T.b__law_partings (a_cons (e_frz (e_op op_sub s_sub (e_var (pv 0)) (e_var (pv 3)))) (a_cons (e_frz (e_var (pv 3))) a_nil)))) (@blkOk_by ["_law_n", "_law_top", "_law_found", "_law_part", "_law_rest"] (defScope s__law_partings) _ _ (by decide +kernel)) (fun _ _ _ _ _ => (g_name (vs := ([("_law_rest", 4)] : List (Str × Nat)).map (·.2)) sc__law_partings.nd rfl (by first | exact .inl rfl | exact .inr rfl) (by decide))) (fun _ _ _ _ _ => ts_nil) (fun _ _ _ _ _ => (e_frz (e_op op_addD s_add (e_tup (a_cons (e_frz (e_var (pv 3))) a_nil)) (e_var (pv 4))))))) a_nil))))) (z_one (z_ret (e_var (pv 2)))))))
theorem ok__law_partings (T : Txt K mg) : ∀ k, FnOk P w K mg base (L2.CX P w) (0 + k) T.f__law_partings T.d__law_partings ["_law_n", "_law_top"] (spOf ⟨K, mg, noG⟩ (sp__law_partings k))
  | 0 => FnOk.never never__law_partings
  | k + 1 => fn_dt T.F__law_partings sc__law_partings (by intro os PP PX h; unfold sp__law_partings at h; first | exact h.elim | (split at h <;> first | rfl | exact h.elim)) (fun cdv A outer s H E hr => dd__law_partings T k (ok__law_partings T k) cdv A outer s H E hr) (pf__law_partings k)
theorem dd__law_same (T : Txt K mg) (k : Nat) (self : FnOk P w K mg base (L2.CX P w) (0 + k) T.f__law_same T.d__law_same ["_law_found", "_law_due"] (spOf ⟨K, mg, noG⟩ (sp__law_same k))) (cdv : Value) (A : Around) (outer : List Env) (s : Shared) (H : Hp) (E : XK) (hr : Room (0 + k) (A.deeper (envOfC "_law_same" (defScope s__law_same) s.heap.objs.size T.f__law_same cdv))) : PSsd (cxOf (L2.CX P w) P w K mg base ["_law_found", "_law_due", "_law_one", "_law_other"] "_law_same" (defScope s__law_same) T.f__law_same cdv A outer s H E) noG (fun cls d _ H => E cls d H) (defBody s__law_same) (b__law_same k) :=
  have tk : Takes (cxOf (L2.CX P w) P w K mg base ["_law_found", "_law_due", "_law_one", "_law_other"] "_law_same" (defScope s__law_same) T.f__law_same cdv A outer s H E) (fun cls d _ H => E cls d H) := takes_of rfl rfl rfl rfl
  (z_cons (z_if (t_tru (e_isi2 (T := "list") (U := "tuple") (by unfold okT; decide +kernel) (by unfold okT; decide +kernel) (by rfl) T.z_isinstance (by rfl) T.z_list (by decide +kernel) (by rfl) T.z_tuple (by decide +kernel) (e_var (pv 1)))) (z_cons (z_if (pt_of_pw (t_or (t_cmp (op_neD hr.units) s_ne (e_isi (T := "list") rfl (by unfold okT; decide +kernel) (by rfl) T.z_isinstance (by rfl) T.z_list (by decide +kernel) (e_var (pv 0))) (e_isi (T := "list") rfl (by unfold okT; decide +kernel) (by rfl) T.z_isinstance (by rfl) T.z_list (by decide +kernel) (e_var (pv 1))) (nomark _)) (t_or1 (t_cmp (op_neD hr.units) s_ne (e_isi (T := "tuple") rfl (by unfold okT; decide +kernel) (by rfl) T.z_isinstance (by rfl) T.z_tuple (by decide +kernel) (e_var (pv 0))) (e_isi (T := "tuple") rfl (by unfold okT; decide +kernel) (by rfl) T.z_isinstance (by rfl) T.z_tuple (by decide +kernel) (e_var (pv 1))) (nomark _))))) (z_one (z_ret e_bl)) z_nil) (z_cons (z_if (t_cmp (op_neD hr.units) s_ne (e_cb call_len s_len (by rfl) T.z_len (by decide +kernel) (a_cons (e_var (pv 0)) a_nil)) (e_cb call_len s_len (by rfl) T.z_len (by decide +kernel) (a_cons (e_var (pv 1)) a_nil)) (nomark _)) (z_one (z_ret e_bl)) z_nil) (z_one (z_ret (e_cb (cr_all rfl) s_all (by rfl) T.z_all (by decide +kernel) (a_cons (e_comp (own := [("_law_one", 2), ("_law_other", 3)]) rfl sc__law_same.nd (i_zip (by rfl) T.z_zip (a_cons (e_frz (e_var (pv 0))) (a_cons (e_frz (e_var (pv 1))) a_nil))) (@blkOk_by ["_law_found", "_law_due", "_law_one", "_law_other"] (defScope s__law_same) _ _ (by decide +kernel)) (fun _ _ _ _ _ => (g_tup rfl (g_cons (g_name (vs := ([("_law_one", 2), ("_law_other", 3)] : List (Str × Nat)).map (·.2)) sc__law_same.nd rfl (by first | exact .inl rfl | exact .inr rfl) (by decide)) (g_cons (g_name (vs := ([("_law_one", 2), ("_law_other", 3)] : List (Str × Nat)).map (·.2)) sc__law_same.nd rfl (by first | exact .inl rfl | exact .inr rfl) (by decide)) g_nil)) rfl)) (fun _ _ _ _ _ => ts_nil) (fun _ _ _ _ _ => (e_frz (e_call self takes0 (hr.mono (by omega)) (by rfl) T.g__law_same T.F__law_same.kp T.b__law_same (a_cons (e_frz (e_var (pv 2))) (a_cons (e_frz (e_var (pv 3))) a_nil)))))) a_nil)))))) z_nil) (z_cons (z_if (pt_of_pw (t_or (t_cmp op_isD s_is (e_var (pv 1)) e_non (nomark _)) (t_or (t_cmp op_isD s_is (e_var (pv 1)) e_bl (nomark _)) (t_or1 (t_cmp op_isD s_is (e_var (pv 1)) e_bl (nomark _)))))) (z_one (z_ret (e_and (e_cmp (op_eqD hr.units) s_eq (e_isi (T := "bool") rfl (by unfold okT; decide +kernel) (by rfl) T.z_isinstance (by rfl) T.z_bool (by decide +kernel) (e_var (pv 0))) (e_isi (T := "bool") rfl (by unfold okT; decide +kernel) (by rfl) T.z_isinstance (by rfl) T.z_bool (by decide +kernel) (e_var (pv 1))) (nomark _)) (e_one (e_cmp (op_eqD hr.units) s_eq (e_var (pv 0)) (e_var (pv 1)) (nomark _)))))) z_nil) (z_cons (z_if (t_tru (e_isi (T := "str") rfl (by unfold okT; decide +kernel) (by rfl) T.z_isinstance (by rfl) T.z_str (by decide +kernel) (e_var (pv 1)))) (z_one (z_ret (e_and (e_isi (T := "str") rfl (by unfold okT; decide +kernel) (by rfl) T.z_isinstance (by rfl) T.z_str (by decide +kernel) (e_var (pv 0))) (e_one (e_cmp (op_eqD hr.units) s_eq (e_var (pv 0)) (e_var (pv 1)) (nomark _)))))) z_nil) (z_one (z_ret (e_and (e_isi (T := "int") rfl (by unfold okT; decide +kernel) (by rfl) T.z_isinstance (by rfl) T.z_int (by decide +kernel) (e_var (pv 0))) (e_and (e_not (e_isi (T := "bool") rfl (by unfold okT; decide +kernel) (by rfl) T.z_isinstance (by rfl) T.z_bool (by decide +kernel) (e_var (pv 0)))) (e_one (e_cmp (op_eqD hr.units) s_eq (e_var (pv 0)) (e_var (pv 1)) (nomark _))))))))))
theorem ok__law_same (T : Txt K mg) : ∀ k, FnOk P w K mg base (L2.CX P w) (0 + k) T.f__law_same T.d__law_same ["_law_found", "_law_due"] (spOf ⟨K, mg, noG⟩ (sp__law_same k))
  | 0 => FnOk.never never__law_same
  | k + 1 => fn_dt T.F__law_same sc__law_same (by intro os PP PX h; unfold sp__law_same at h; first | exact h.elim | (split at h <;> first | rfl | exact h.elim)) (fun cdv A outer s H E hr => dd__law_same T k (ok__law_same T k) cdv A outer s H E hr) (pf__law_same k)
theorem dd__law_less (T : Txt K mg) (cdv : Value) (A : Around) (outer : List Env) (s : Shared) (H : Hp) (E : XK) (hr : Room 0 (A.deeper (envOfC "_law_less" (defScope s__law_less) s.heap.objs.size T.f__law_less cdv))) : PSsd (cxOf (L2.CX P w) P w K mg base ["_law_heap_here", "_law_out", "_law_rest", "_law_part"] "_law_less" (defScope s__law_less) T.f__law_less cdv A outer s H E) noG (fun cls d _ H => E cls d H) (defBody s__law_less) b__law_less :=
  have tk : Takes (cxOf (L2.CX P w) P w K mg base ["_law_heap_here", "_law_out", "_law_rest", "_law_part"] "_law_less" (defScope s__law_less) T.f__law_less cdv A outer s H E) (fun cls d _ H => E cls d H) := takes_of rfl rfl rfl rfl
  (z_cons (z_set (i := 2) sc__law_less.nd rfl (by first | exact .inl rfl | exact .inr rfl) (e_cty call_list_of s_list (by rfl) T.z_list (by decide +kernel) (a_cons (e_var (pv 0)) a_nil))) (z_cons (z_for (passes_of rfl) rfl (i_seq (e_frz (e_var (pv 1)))) (g_name (vs := [3]) sc__law_less.nd rfl (by first | exact .inl rfl | exact .inr rfl) (by decide)) (z_one (z_expr (e_mu PySem.F.slot_list_remove PySem.F.type_list_remove mt_remove s_rem (e_var (pv 2)) (a_cons (e_frz (e_var (pv 3))) a_nil))))) (z_one (z_ret (e_cty call_tupleF s_tuple (by rfl) T.z_tuple (by decide +kernel) (a_cons (e_var (pv 2)) a_nil))))))
theorem ok__law_less (T : Txt K mg) : FnOk P w K mg base (L2.CX P w) 1 T.f__law_less T.d__law_less ["_law_heap_here", "_law_out"] (spOf ⟨K, mg, noG⟩ sp__law_less) := fn_dt T.F__law_less sc__law_less (by intro os PP PX h; unfold sp__law_less at h; first | exact h.elim | (split at h <;> first | rfl | exact h.elim)) (fun cdv A outer s H E hr => dd__law_less T cdv A outer s H E hr) pf__law_less
theorem dd__law_put (T : Txt K mg) (cdv : Value) (A : Around) (outer : List Env) (s : Shared) (H : Hp) (E : XK) (hr : Room 0 (A.deeper (envOfC "_law_put" (defScope s__law_put) s.heap.objs.size T.f__law_put cdv))) : PSsd (cxOf (L2.CX P w) P w K mg base ["_law_one", "_law_other"] "_law_put" (defScope s__law_put) T.f__law_put cdv A outer s H E) noG (fun cls d _ H => E cls d H) (defBody s__law_put) b__law_put :=
  have tk : Takes (cxOf (L2.CX P w) P w K mg base ["_law_one", "_law_other"] "_law_put" (defScope s__law_put) T.f__law_put cdv A outer s H E) (fun cls d _ H => E cls d H) := takes_of rfl rfl rfl rfl
  (z_one (z_ret (e_cty call_tupleF s_tuple (by rfl) T.z_tuple (by decide +kernel) (a_cons (e_sortR (by rfl) T.z_sorted (a_cons (e_op op_addD s_add (e_var (pv 0)) (e_var (pv 1))) a_nil)) a_nil))))
theorem ok__law_put (T : Txt K mg) : FnOk P w K mg base (L2.CX P w) 1 T.f__law_put T.d__law_put ["_law_one", "_law_other"] (spOf ⟨K, mg, noG⟩ sp__law_put) := fn_dt T.F__law_put sc__law_put (by intro os PP PX h; unfold sp__law_put at h; first | exact h.elim | (split at h <;> first | rfl | exact h.elim)) (fun cdv A outer s H E hr => dd__law_put T cdv A outer s H E hr) pf__law_put
theorem dd__law_crossed (T : Txt K mg) (cdv : Value) (A : Around) (outer : List Env) (s : Shared) (H : Hp) (E : XK) (hr : Room 1 (A.deeper (envOfC "_law_crossed" (defScope s__law_crossed) s.heap.objs.size T.f__law_crossed cdv))) : PSsd (cxOf (L2.CX P w) P w K mg base ["_law_rules", "_law_place", "_law_side", "_law_heap_here", "_law_choice", "_law_out", "_law_number", "_law_more"] "_law_crossed" (defScope s__law_crossed) T.f__law_crossed cdv A outer s H E) noG (fun cls d _ H => E cls d H) (defBody s__law_crossed) b__law_crossed :=
  have tk : Takes (cxOf (L2.CX P w) P w K mg base ["_law_rules", "_law_place", "_law_side", "_law_heap_here", "_law_choice", "_law_out", "_law_number", "_law_more"] "_law_crossed" (defScope s__law_crossed) T.f__law_crossed cdv A outer s H E) (fun cls d _ H => E cls d H) := takes_of rfl rfl rfl rfl
  (z_cons (z_asgT (vs := [2, 3, 4]) (e_frz (e_var (pv 1))) (g_strong (g_tup rfl (g_cons (g_name (vs := [2, 3, 4]) sc__law_crossed.nd rfl (by first | exact .inl rfl | exact .inr rfl) (by decide)) (g_cons (g_name (vs := [2, 3, 4]) sc__law_crossed.nd rfl (by first | exact .inl rfl | exact .inr rfl) (by decide)) (g_cons (g_name (vs := [2, 3, 4]) sc__law_crossed.nd rfl (by first | exact .inl rfl | exact .inr rfl) (by decide)) g_nil))) rfl))) (z_cons (z_set (i := 5) sc__law_crossed.nd rfl (by first | exact .inl rfl | exact .inr rfl) (e_call (ok__law_joined T) tk (hr.mono (by decide)) (by rfl) T.g__law_joined T.F__law_joined.kp T.b__law_joined (a_cons (e_frz (e_comp (own := [("_law_number", 6)]) rfl sc__law_crossed.nd (i_seq (e_frz (e_var (pv 4)))) (@blkOk_by ["_law_rules", "_law_place", "_law_side", "_law_heap_here", "_law_choice", "_law_out", "_law_number", "_law_more"] (defScope s__law_crossed) _ _ (by decide +kernel)) (fun _ _ _ _ _ => (g_name (vs := ([("_law_number", 6)] : List (Str × Nat)).map (·.2)) sc__law_crossed.nd rfl (by first | exact .inl rfl | exact .inr rfl) (by decide))) (fun _ _ _ _ _ => ts_nil) (fun _ _ _ _ _ => (e_frz (e_ix (e_ix (e_var (pv 0)) (e_op op_sub s_sub (e_var (pv 2)) e_int)) (e_var (pv 6))))))) a_nil))) (z_cons (z_set (i := 7) sc__law_crossed.nd rfl (by first | exact .inl rfl | exact .inr rfl) (e_call (ok__law_joined T) tk (hr.mono (by decide)) (by rfl) T.g__law_joined T.F__law_joined.kp T.b__law_joined (a_cons (e_frz (e_comp (own := [("_law_number", 6)]) rfl sc__law_crossed.nd (i_seq (e_frz (e_var (pv 4)))) (@blkOk_by ["_law_rules", "_law_place", "_law_side", "_law_heap_here", "_law_choice", "_law_out", "_law_number", "_law_more"] (defScope s__law_crossed) _ _ (by decide +kernel)) (fun _ _ _ _ _ => (g_name (vs := ([("_law_number", 6)] : List (Str × Nat)).map (·.2)) sc__law_crossed.nd rfl (by first | exact .inl rfl | exact .inr rfl) (by decide))) (fun _ _ _ _ _ => ts_nil) (fun _ _ _ _ _ => (e_frz (e_ix (e_ix (e_var (pv 0)) (e_op op_sub s_sub e_int (e_var (pv 2)))) (e_var (pv 6))))))) a_nil))) (z_one (z_ret (e_tup (a_cons (e_frz (e_op op_sub s_sub e_int (e_var (pv 2)))) (a_cons (e_frz (e_call (ok__law_put T) tk (hr.mono (by decide)) (by rfl) T.g__law_put T.F__law_put.kp T.b__law_put (a_cons (e_frz (e_call (ok__law_less T) tk (hr.mono (by decide)) (by rfl) T.g__law_less T.F__law_less.kp T.b__law_less (a_cons (e_frz (e_var (pv 3))) (a_cons (e_frz (e_var (pv 5))) a_nil)))) (a_cons (e_frz (e_var (pv 7))) a_nil)))) (a_cons (e_frz (e_var (pv 4))) a_nil)))))))))
theorem ok__law_crossed (T : Txt K mg) : FnOk P w K mg base (L2.CX P w) 2 T.f__law_crossed T.d__law_crossed ["_law_rules", "_law_place"] (spOf ⟨K, mg, noG⟩ sp__law_crossed) := fn_dt T.F__law_crossed sc__law_crossed (by intro os PP PX h; unfold sp__law_crossed at h; first | exact h.elim | (split at h <;> first | rfl | exact h.elim)) (fun cdv A outer s H E hr => dd__law_crossed T cdv A outer s H E hr) pf__law_crossed
theorem dd__law_toggled (T : Txt K mg) (cdv : Value) (A : Around) (outer : List Env) (s : Shared) (H : Hp) (E : XK) (hr : Room 2 (A.deeper (envOfC "_law_toggled" (defScope s__law_toggled) s.heap.objs.size T.f__law_toggled cdv))) : PSsd (cxOf (L2.CX P w) P w K mg base ["_law_rules", "_law_place", "_law_side", "_law_heap_here", "_law_choice", "_law_number", "_law_one"] "_law_toggled" (defScope s__law_toggled) T.f__law_toggled cdv A outer s H E) noG (fun cls d _ H => E cls d H) (defBody s__law_toggled) b__law_toggled :=
  have tk : Takes (cxOf (L2.CX P w) P w K mg base ["_law_rules", "_law_place", "_law_side", "_law_heap_here", "_law_choice", "_law_number", "_law_one"] "_law_toggled" (defScope s__law_toggled) T.f__law_toggled cdv A outer s H E) (fun cls d _ H => E cls d H) := takes_of rfl rfl rfl rfl
  (z_cons (z_asgT (vs := [2, 3, 4]) (e_frz (e_var (pv 1))) (g_strong (g_tup rfl (g_cons (g_name (vs := [2, 3, 4]) sc__law_toggled.nd rfl (by first | exact .inl rfl | exact .inr rfl) (by decide)) (g_cons (g_name (vs := [2, 3, 4]) sc__law_toggled.nd rfl (by first | exact .inl rfl | exact .inr rfl) (by decide)) (g_cons (g_name (vs := [2, 3, 4]) sc__law_toggled.nd rfl (by first | exact .inl rfl | exact .inr rfl) (by decide)) g_nil))) rfl))) (z_cons (z_set (i := 5) sc__law_toggled.nd rfl (by first | exact .inl rfl | exact .inr rfl) (e_call (ok__law_first T) tk (hr.mono (by decide)) (by rfl) T.g__law_first T.F__law_first.kp T.b__law_first (a_cons (e_frz (e_ix (e_var (pv 0)) (e_op op_sub s_sub (e_var (pv 2)) e_int))) (a_cons (e_frz (e_var (pv 3))) a_nil)))) (z_cons (z_if (t_cmp op_isD s_is (e_var (pv 5)) e_non (nomark _)) (z_one (z_ret e_non)) z_nil) (z_stp (z_cons (z_if (t_cmp (op_inD hr.units) s_in (e_var (pv 5)) (e_var (pv 4)) (by rfl)) (z_one (z_ret (e_tup (a_cons (e_frz (e_var (pv 2))) (a_cons (e_frz (e_var (pv 3))) (a_cons (e_cty call_tupleF s_tuple (by rfl) T.z_tuple (by decide +kernel) (a_cons (e_comp (own := [("_law_one", 6)]) rfl sc__law_toggled.nd (i_seq (e_frz (e_var (pv 4)))) (@blkOk_by ["_law_rules", "_law_place", "_law_side", "_law_heap_here", "_law_choice", "_law_number", "_law_one"] (defScope s__law_toggled) _ _ (by decide +kernel)) (fun _ _ _ _ _ => (g_name (vs := ([("_law_one", 6)] : List (Str × Nat)).map (·.2)) sc__law_toggled.nd rfl (by first | exact .inl rfl | exact .inr rfl) (by decide))) (fun _ _ _ _ _ => (ts_one (t_cmp (op_neD hr.units) s_ne (e_var (pv 6)) (e_var (pv 5)) (nomark _)))) (fun _ _ _ _ _ => (e_frz (e_var (pv 6))))) a_nil)) a_nil)))))) z_nil) (z_stp (z_one (z_ret (e_tup (a_cons (e_frz (e_var (pv 2))) (a_cons (e_frz (e_var (pv 3))) (a_cons (e_cty call_tupleF s_tuple (by rfl) T.z_tuple (by decide +kernel) (a_cons (e_cb cr_srt s_sort (by rfl) T.z_sorted (by decide +kernel) (a_cons (e_op op_addD s_add (e_var (pv 4)) (e_tup (a_cons (e_frz (e_var (pv 5))) a_nil))) a_nil)) a_nil)) a_nil))))))))))))
theorem ok__law_toggled (T : Txt K mg) : FnOk P w K mg base (L2.CX P w) 3 T.f__law_toggled T.d__law_toggled ["_law_rules", "_law_place"] (spOf ⟨K, mg, noG⟩ sp__law_toggled) := fn_dt T.F__law_toggled sc__law_toggled (by intro os PP PX h; unfold sp__law_toggled at h; first | exact h.elim | (split at h <;> first | rfl | exact h.elim)) (fun cdv A outer s H E hr => dd__law_toggled T cdv A outer s H E hr) pf__law_toggled
theorem dd__law_steps_right (T : Txt K mg) (cdv : Value) (A : Around) (outer : List Env) (s : Shared) (H : Hp) (E : XK) (hr : Room 6 (A.deeper (envOfC "_law_steps_right" (defScope s__law_steps_right) s.heap.objs.size T.f__law_steps_right cdv))) : PSsd (cxOf (L2.CX P w) P w K mg base ["_law_rules", "_law_rows", "_law_at", "_law_due"] "_law_steps_right" (defScope s__law_steps_right) T.f__law_steps_right cdv A outer s H E) noG (fun cls d _ H => E cls d H) (defBody s__law_steps_right) b__law_steps_right :=
  have tk : Takes (cxOf (L2.CX P w) P w K mg base ["_law_rules", "_law_rows", "_law_at", "_law_due"] "_law_steps_right" (defScope s__law_steps_right) T.f__law_steps_right cdv A outer s H E) (fun cls d _ H => E cls d H) := takes_of rfl rfl rfl rfl
  (z_cons (z_for (passes_of rfl) rfl (i_r2 (by rfl) T.z_range (a_cons e_int (a_cons (e_cb call_len s_len (by rfl) T.z_len (by decide +kernel) (a_cons (e_var (pv 1)) a_nil)) a_nil))) (g_name (vs := [2]) sc__law_steps_right.nd rfl (by first | exact .inl rfl | exact .inr rfl) (by decide)) (z_cons (z_set (i := 3) sc__law_steps_right.nd rfl (by first | exact .inl rfl | exact .inr rfl) (e_call (ok__law_crossed T) tk (hr.mono (by decide)) (by rfl) T.g__law_crossed T.F__law_crossed.kp T.b__law_crossed (a_cons (e_frz (e_var (pv 0))) (a_cons (e_frz (e_ix (e_var (pv 1)) (e_op op_sub s_sub (e_var (pv 2)) e_int))) a_nil)))) (z_cons (z_if (t_cmp (op_eqD hr.units) s_eq (e_op op_mod s_mod (e_var (pv 2)) e_int) e_int (nomark _)) (z_one (z_set (i := 3) sc__law_steps_right.nd rfl (by first | exact .inl rfl | exact .inr rfl) (e_call (ok__law_toggled T) tk (hr.mono (by decide)) (by rfl) T.g__law_toggled T.F__law_toggled.kp T.b__law_toggled (a_cons (e_frz (e_var (pv 0))) (a_cons (e_frz (e_ix (e_var (pv 1)) (e_op op_sub s_sub (e_var (pv 2)) e_int))) a_nil))))) z_nil) (z_stp (z_one (z_if (pt_of_pw (t_or (t_cmp op_isD s_is (e_var (pv 3)) e_non (nomark _)) (t_or1 (t_not (t_tru (e_call (ok__law_same T 6) tk (hr.mono (by decide)) (by rfl) T.g__law_same T.F__law_same.kp T.b__law_same (a_cons (e_frz (e_ix (e_var (pv 1)) (e_var (pv 2)))) (a_cons (e_frz (e_var (pv 3))) a_nil)))))))) (z_one (z_ret e_bl)) z_nil)))))) (z_stp (z_one (z_ret (e_and (e_cmp (op_eqD hr.units) s_eq (e_lensetN rfl hr.units (by rfl) T.z_len (by rfl) T.z_set (e_var (pv 1))) (e_cb call_len s_len (by rfl) T.z_len (by decide +kernel) (a_cons (e_var (pv 1)) a_nil)) (nomark _)) (e_one (e_cmp (op_eqD hr.units) s_eq (e_op op_mod s_mod (e_cb call_len s_len (by rfl) T.z_len (by decide +kernel) (a_cons (e_var (pv 1)) a_nil)) e_int) e_int (nomark _))))))))
theorem ok__law_steps_right (T : Txt K mg) : FnOk P w K mg base (L2.CX P w) 7 T.f__law_steps_right T.d__law_steps_right ["_law_rules", "_law_rows"] (spOf ⟨K, mg, noG⟩ sp__law_steps_right) := fn_dt T.F__law_steps_right sc__law_steps_right (by intro os PP PX h; unfold sp__law_steps_right at h; first | exact h.elim | (split at h <;> first | rfl | exact h.elim)) (fun cdv A outer s H E hr => dd__law_steps_right T cdv A outer s H E hr) pf__law_steps_right
theorem dd_Beside_rules (T : Txt K mg) (cdv : Value) (A : Around) (outer : List Env) (s : Shared) (H : Hp) (E : XK) (hr : Room 0 (A.deeper (envOfC "Beside.rules" (defScope s_Beside_rules) s.heap.objs.size T.f_Beside_rules cdv))) : PSsd (cxOf (L2.CX P w) P w K mg base ["self"] "Beside.rules" (defScope s_Beside_rules) T.f_Beside_rules cdv A outer s H E) noG (fun cls d _ H => E cls d H) (defBody s_Beside_rules) b_Beside_rules :=
  have tk : Takes (cxOf (L2.CX P w) P w K mg base ["self"] "Beside.rules" (defScope s_Beside_rules) T.f_Beside_rules cdv A outer s H E) (fun cls d _ H => E cls d H) := takes_of rfl rfl rfl rfl
  (z_one (z_ret (e_tup (a_cons (e_frz (e_fldL T.bes (e_var (pv 0)))) (a_cons (e_frz (e_fldR T.bes (e_var (pv 0)))) a_nil)))))
theorem ok_Beside_rules (T : Txt K mg) : FnOk P w K mg base (L2.CX P w) 1 T.f_Beside_rules T.d_Beside_rules ["self"] (spOf ⟨K, mg, noG⟩ sp_Beside_rules) := fn_dt T.F_Beside_rules sc_Beside_rules (by intro os PP PX h; unfold sp_Beside_rules at h; first | exact h.elim | (split at h <;> first | rfl | exact h.elim)) (fun cdv A outer s H E hr => dd_Beside_rules T cdv A outer s H E hr) pf_Beside_rules
theorem dd_lies_in (T : Txt K mg) (cdv : Value) (A : Around) (outer : List Env) (s : Shared) (H : Hp) (E : XK) (hr : Room 0 (A.deeper (envOfC "lies_in" (defScope s_lies_in) s.heap.objs.size T.f_lies_in cdv))) : PSsd (cxOf (L2.CX P w) P w K mg base ["one", "other", "part"] "lies_in" (defScope s_lies_in) T.f_lies_in cdv A outer s H E) noG (fun cls d _ H => E cls d H) (defBody s_lies_in) b_lies_in :=
  have tk : Takes (cxOf (L2.CX P w) P w K mg base ["one", "other", "part"] "lies_in" (defScope s_lies_in) T.f_lies_in cdv A outer s H E) (fun cls d _ H => E cls d H) := takes_of rfl rfl rfl rfl
  (z_one (z_ret (e_cb (cr_all rfl) s_all (by rfl) T.z_all (by decide +kernel) (a_cons (e_comp (own := [("part", 2)]) rfl sc_lies_in.nd (i_seq (e_frz (e_var (pv 0)))) (@blkOk_by ["one", "other", "part"] (defScope s_lies_in) _ _ (by decide +kernel)) (fun _ _ _ _ _ => (g_name (vs := ([("part", 2)] : List (Str × Nat)).map (·.2)) sc_lies_in.nd rfl (by first | exact .inl rfl | exact .inr rfl) (by decide))) (fun _ _ _ _ _ => ts_nil) (fun _ _ _ _ _ => (e_cmp op_le s_le (e_cnt hr.units (e_var (pv 0)) (a_cons (e_var (pv 2)) a_nil)) (e_cnt hr.units (e_var (pv 1)) (a_cons (e_var (pv 2)) a_nil)) (nomark _)))) a_nil))))
theorem ok_lies_in (T : Txt K mg) : FnOk P w K mg base (L2.CX P w) 1 T.f_lies_in T.d_lies_in ["one", "other"] (spOf ⟨K, mg, noG⟩ sp_lies_in) := fn_dt T.F_lies_in sc_lies_in (by intro os PP PX h; unfold sp_lies_in at h; first | exact h.elim | (split at h <;> first | rfl | exact h.elim)) (fun cdv A outer s H E hr => dd_lies_in T cdv A outer s H E hr) pf_lies_in
theorem dd_all_in (T : Txt K mg) (cdv : Value) (A : Around) (outer : List Env) (s : Shared) (H : Hp) (E : XK) (hr : Room 1 (A.deeper (envOfC "all_in" (defScope s_all_in) s.heap.objs.size T.f_all_in cdv))) : PSsd (cxOf (L2.CX P w) P w K mg base ["rule", "heap", "number", "one"] "all_in" (defScope s_all_in) T.f_all_in cdv A outer s H E) noG (fun cls d _ H => E cls d H) (defBody s_all_in) b_all_in :=
  have tk : Takes (cxOf (L2.CX P w) P w K mg base ["rule", "heap", "number", "one"] "all_in" (defScope s_all_in) T.f_all_in cdv A outer s H E) (fun cls d _ H => E cls d H) := takes_of rfl rfl rfl rfl
  (z_one (z_ret (e_comp (own := [("number", 2), ("one", 3)]) rfl sc_all_in.nd (i_enum (by rfl) T.z_enumerate (a_cons (e_frz (e_var (pv 0))) a_nil)) (@blkOk_by ["rule", "heap", "number", "one"] (defScope s_all_in) _ _ (by decide +kernel)) (fun _ _ _ _ _ => (g_tup rfl (g_cons (g_name (vs := ([("number", 2), ("one", 3)] : List (Str × Nat)).map (·.2)) sc_all_in.nd rfl (by first | exact .inl rfl | exact .inr rfl) (by decide)) (g_cons (g_name (vs := ([("number", 2), ("one", 3)] : List (Str × Nat)).map (·.2)) sc_all_in.nd rfl (by first | exact .inl rfl | exact .inr rfl) (by decide)) g_nil)) rfl)) (fun _ _ _ _ _ => (ts_one (t_tru (e_call (ok_lies_in T) takes0 (hr.mono (by decide)) (by rfl) T.g_lies_in T.F_lies_in.kp T.b_lies_in (a_cons (e_frz (e_var (pv 3))) (a_cons (e_frz (e_var (pv 1))) a_nil)))))) (fun _ _ _ _ _ => (e_frz (e_var (pv 2)))))))
theorem ok_all_in (T : Txt K mg) : FnOk P w K mg base (L2.CX P w) 2 T.f_all_in T.d_all_in ["rule", "heap"] (spOf ⟨K, mg, noG⟩ sp_all_in) := fn_dt T.F_all_in sc_all_in (by intro os PP PX h; unfold sp_all_in at h; first | exact h.elim | (split at h <;> first | rfl | exact h.elim)) (fun cdv A outer s H E hr => dd_all_in T cdv A outer s H E hr) pf_all_in
theorem dd_first_in (T : Txt K mg) (cdv : Value) (A : Around) (outer : List Env) (s : Shared) (H : Hp) (E : XK) (hr : Room 2 (A.deeper (envOfC "first_in" (defScope s_first_in) s.heap.objs.size T.f_first_in cdv))) : PSsd (cxOf (L2.CX P w) P w K mg base ["rule", "heap", "found"] "first_in" (defScope s_first_in) T.f_first_in cdv A outer s H E) noG (fun cls d _ H => E cls d H) (defBody s_first_in) b_first_in :=
  have tk : Takes (cxOf (L2.CX P w) P w K mg base ["rule", "heap", "found"] "first_in" (defScope s_first_in) T.f_first_in cdv A outer s H E) (fun cls d _ H => E cls d H) := takes_of rfl rfl rfl rfl
  (z_cons (z_set (i := 2) sc_first_in.nd rfl (by first | exact .inl rfl | exact .inr rfl) (e_call (ok_all_in T) tk (hr.mono (by decide)) (by rfl) T.g_all_in T.F_all_in.kp T.b_all_in (a_cons (e_frz (e_var (pv 0))) (a_cons (e_frz (e_var (pv 1))) a_nil)))) (z_cons (z_if (t_tru (e_var (pv 2))) (z_one (z_ret (e_ix (e_var (pv 2)) e_int))) z_nil) (z_one (z_ret e_non))))
theorem ok_first_in (T : Txt K mg) : FnOk P w K mg base (L2.CX P w) 3 T.f_first_in T.d_first_in ["rule", "heap"] (spOf ⟨K, mg, noG⟩ sp_first_in) := fn_dt T.F_first_in sc_first_in (by intro os PP PX h; unfold sp_first_in at h; first | exact h.elim | (split at h <;> first | rfl | exact h.elim)) (fun cdv A outer s H E hr => dd_first_in T cdv A outer s H E hr) pf_first_in
theorem dd_held_keeper (T : Txt K mg) (cdv : Value) (A : Around) (outer : List Env) (s : Shared) (H : Hp) (E : XK) (hr : Room 3 (A.deeper (envOfC "held_keeper" (defScope s_held_keeper) s.heap.objs.size T.f_held_keeper cdv))) : PSsd (cxOf (L2.CX P w) P w K mg base ["sided", "heap", "number"] "held_keeper" (defScope s_held_keeper) T.f_held_keeper cdv A outer s H E) noG (fun cls d _ H => E cls d H) (defBody s_held_keeper) b_held_keeper :=
  have tk : Takes (cxOf (L2.CX P w) P w K mg base ["sided", "heap", "number"] "held_keeper" (defScope s_held_keeper) T.f_held_keeper cdv A outer s H E) (fun cls d _ H => E cls d H) := takes_of rfl rfl rfl rfl
  (z_cons (z_set (i := 2) sc_held_keeper.nd rfl (by first | exact .inl rfl | exact .inr rfl) (e_call (ok_first_in T) tk (hr.mono (by decide)) (by rfl) T.g_first_in T.F_first_in.kp T.b_first_in (a_cons (e_frz (e_ix (e_meth0 T.bes T.m_Beside_rules (by decide) (by decide) (ok_Beside_rules T) tk (hr.mono (by decide)) T.b_Beside_rules (e_var (pv 0))) e_int)) (a_cons (e_frz (e_var (pv 1))) a_nil)))) (z_one (z_if (t_cmp op_isNotD s_isNot (e_var (pv 2)) e_non (nomark _)) (z_one (z_raiseF (n := 18) (fs := ["number"]) T.xf rfl tk (by decide) (ini_18 T) rfl (hr.mono (by decide)) (by rfl) (by decide) (by decide) (a_cons (e_frz (e_var (pv 2))) a_nil))) z_nil)))
theorem ok_held_keeper (T : Txt K mg) : FnOk P w K mg base (L2.CX P w) 4 T.f_held_keeper T.d_held_keeper ["sided", "heap"] (spOf ⟨K, mg, noG⟩ sp_held_keeper) := fn_dt T.F_held_keeper sc_held_keeper (by intro os PP PX h; unfold sp_held_keeper at h; first | exact h.elim | (split at h <;> first | rfl | exact h.elim)) (fun cdv A outer s H E hr => dd_held_keeper T cdv A outer s H E hr) pf_held_keeper
theorem dd_is_pair (T : Txt K mg) (cdv : Value) (A : Around) (outer : List Env) (s : Shared) (H : Hp) (E : XK) (hr : Room 1 (A.deeper (envOfC "is_pair" (defScope s_is_pair) s.heap.objs.size T.f_is_pair cdv))) : PSsd (cxOf (L2.CX P w) P w K mg base ["rule", "heap", "choice", "last", "number"] "is_pair" (defScope s_is_pair) T.f_is_pair cdv A outer s H E) noG (fun cls d _ H => E cls d H) (defBody s_is_pair) b_is_pair :=
  have tk : Takes (cxOf (L2.CX P w) P w K mg base ["rule", "heap", "choice", "last", "number"] "is_pair" (defScope s_is_pair) T.f_is_pair cdv A outer s H E) (fun cls d _ H => E cls d H) := takes_of rfl rfl rfl rfl
  (z_cons (z_set (i := 3) sc_is_pair.nd rfl (by first | exact .inl rfl | exact .inr rfl) (e_un un_neg s_neg e_int)) (z_cons (z_for (passes_of rfl) rfl (i_seq (e_frz (e_var (pv 2)))) (g_name (vs := [4]) sc_is_pair.nd rfl (by first | exact .inl rfl | exact .inr rfl) (by decide)) (z_cons (z_if (pt_of_pw (t_or (t_cmp op_le s_le (e_var (pv 4)) (e_var (pv 3)) (nomark _)) (t_or (t_cmp op_ge s_ge (e_var (pv 4)) (e_cb call_len s_len (by rfl) T.z_len (by decide +kernel) (a_cons (e_var (pv 0)) a_nil)) (nomark _)) (t_or1 (t_not (t_tru (e_call (ok_lies_in T) tk (hr.mono (by decide)) (by rfl) T.g_lies_in T.F_lies_in.kp T.b_lies_in (a_cons (e_frz (e_ix (e_var (pv 0)) (e_var (pv 4)))) (a_cons (e_frz (e_var (pv 1))) a_nil))))))))) (z_one (z_ret e_bl)) z_nil) (z_stp (z_one (z_set (i := 3) sc_is_pair.nd rfl (by first | exact .inl rfl | exact .inr rfl) (e_var (pv 4))))))) (z_one (z_ret e_bl))))
theorem ok_is_pair (T : Txt K mg) : FnOk P w K mg base (L2.CX P w) 2 T.f_is_pair T.d_is_pair ["rule", "heap", "choice"] (spOf ⟨K, mg, noG⟩ sp_is_pair) := fn_dt T.F_is_pair sc_is_pair (by intro os PP PX h; unfold sp_is_pair at h; first | exact h.elim | (split at h <;> first | rfl | exact h.elim)) (fun cdv A outer s H E hr => dd_is_pair T cdv A outer s H E hr) pf_is_pair
theorem dd_held_pair (T : Txt K mg) (cdv : Value) (A : Around) (outer : List Env) (s : Shared) (H : Hp) (E : XK) (hr : Room 2 (A.deeper (envOfC "held_pair" (defScope s_held_pair) s.heap.objs.size T.f_held_pair cdv))) : PSsd (cxOf (L2.CX P w) P w K mg base ["rule", "pair"] "held_pair" (defScope s_held_pair) T.f_held_pair cdv A outer s H E) noG (fun cls d _ H => E cls d H) (defBody s_held_pair) b_held_pair :=
  have tk : Takes (cxOf (L2.CX P w) P w K mg base ["rule", "pair"] "held_pair" (defScope s_held_pair) T.f_held_pair cdv A outer s H E) (fun cls d _ H => E cls d H) := takes_of rfl rfl rfl rfl
  (z_cons (z_if (t_not (t_tru (e_call (ok_is_pair T) tk (hr.mono (by decide)) (by rfl) T.g_is_pair T.F_is_pair.kp T.b_is_pair (a_cons (e_frz (e_var (pv 0))) (a_cons (e_frz (e_ix (e_var (pv 1)) e_int)) (a_cons (e_frz (e_ix (e_var (pv 1)) e_int)) a_nil)))))) (z_one (z_raise (n := 7) T.xf rfl tk (by decide) (by decide) rfl (by rfl))) z_nil) (z_stp (z_one (z_ret (e_var (pv 1))))))
theorem ok_held_pair (T : Txt K mg) : FnOk P w K mg base (L2.CX P w) 3 T.f_held_pair T.d_held_pair ["rule", "pair"] (spOf ⟨K, mg, noG⟩ sp_held_pair) := fn_dt T.F_held_pair sc_held_pair (by intro os PP PX h; unfold sp_held_pair at h; first | exact h.elim | (split at h <;> first | rfl | exact h.elim)) (fun cdv A outer s H E hr => dd_held_pair T cdv A outer s H E hr) pf_held_pair
theorem dd_heap_of (T : Txt K mg) (cdv : Value) (A : Around) (outer : List Env) (s : Shared) (H : Hp) (E : XK) (hr : Room 2 (A.deeper (envOfC "heap_of" (defScope s_heap_of) s.heap.objs.size T.f_heap_of cdv))) : PSsd (cxOf (L2.CX P w) P w K mg base ["parts", "part"] "heap_of" (defScope s_heap_of) T.f_heap_of cdv A outer s H E) noG (fun cls d _ H => E cls d H) (defBody s_heap_of) b_heap_of :=
  have tk : Takes (cxOf (L2.CX P w) P w K mg base ["parts", "part"] "heap_of" (defScope s_heap_of) T.f_heap_of cdv A outer s H E) (fun cls d _ H => E cls d H) := takes_of rfl rfl rfl rfl
  (z_cons (z_for (passes_of rfl) rfl (i_seq (e_frz (e_var (pv 0)))) (g_name (vs := [1]) sc_heap_of.nd rfl (by first | exact .inl rfl | exact .inr rfl) (by decide)) (z_one (z_if (t_cmp (op_ltD hr.units) s_lt (e_var (pv 1)) e_int (nomark _)) (z_one (z_raiseF (n := 17) (fs := ["part"]) T.xf rfl tk (by decide) (ini_17 T) rfl (hr.mono (by decide)) (by rfl) (by decide) (by decide) (a_cons (e_frz (e_var (pv 1))) a_nil))) z_nil))) (z_one (z_ret (e_cty call_tupleF s_tuple (by rfl) T.z_tuple (by decide +kernel) (a_cons (e_rev (e_cb cr_srt s_sort (by rfl) T.z_sorted (by decide +kernel) (a_cons (e_var (pv 0)) a_nil))) a_nil)))))
theorem ok_heap_of (T : Txt K mg) : FnOk P w K mg base (L2.CX P w) 3 T.f_heap_of T.d_heap_of ["parts"] (spOf ⟨K, mg, noG⟩ sp_heap_of) := fn_dt T.F_heap_of sc_heap_of (by intro os PP PX h; unfold sp_heap_of at h; first | exact h.elim | (split at h <;> first | rfl | exact h.elim)) (fun cdv A outer s H E hr => dd_heap_of T cdv A outer s H E hr) pf_heap_of
theorem dd_put (T : Txt K mg) (cdv : Value) (A : Around) (outer : List Env) (s : Shared) (H : Hp) (E : XK) (hr : Room 3 (A.deeper (envOfC "put" (defScope s_put) s.heap.objs.size T.f_put cdv))) : PSsd (cxOf (L2.CX P w) P w K mg base ["one", "other"] "put" (defScope s_put) T.f_put cdv A outer s H E) noG (fun cls d _ H => E cls d H) (defBody s_put) b_put :=
  have tk : Takes (cxOf (L2.CX P w) P w K mg base ["one", "other"] "put" (defScope s_put) T.f_put cdv A outer s H E) (fun cls d _ H => E cls d H) := takes_of rfl rfl rfl rfl
  (z_one (z_ret (e_call (ok_heap_of T) tk (hr.mono (by decide)) (by rfl) T.g_heap_of T.F_heap_of.kp T.b_heap_of (a_cons (e_frz (e_op op_addD s_add (e_var (pv 0)) (e_var (pv 1)))) a_nil))))
theorem ok_put (T : Txt K mg) : FnOk P w K mg base (L2.CX P w) 4 T.f_put T.d_put ["one", "other"] (spOf ⟨K, mg, noG⟩ sp_put) := fn_dt T.F_put sc_put (by intro os PP PX h; unfold sp_put at h; first | exact h.elim | (split at h <;> first | rfl | exact h.elim)) (fun cdv A outer s H E hr => dd_put T cdv A outer s H E hr) pf_put
theorem dd_sides_of (T : Txt K mg) (cdv : Value) (A : Around) (outer : List Env) (s : Shared) (H : Hp) (E : XK) (hr : Room 1 (A.deeper (envOfC "sides_of" (defScope s_sides_of) s.heap.objs.size T.f_sides_of cdv))) : PSsd (cxOf (L2.CX P w) P w K mg base ["sided", "side", "one", "other"] "sides_of" (defScope s_sides_of) T.f_sides_of cdv A outer s H E) noG (fun cls d _ H => E cls d H) (defBody s_sides_of) b_sides_of :=
  have tk : Takes (cxOf (L2.CX P w) P w K mg base ["sided", "side", "one", "other"] "sides_of" (defScope s_sides_of) T.f_sides_of cdv A outer s H E) (fun cls d _ H => E cls d H) := takes_of rfl rfl rfl rfl
  (z_cons (z_asgT (vs := [2, 3]) (e_frz (e_meth0 T.bes T.m_Beside_rules (by decide) (by decide) (ok_Beside_rules T) tk (hr.mono (by decide)) T.b_Beside_rules (e_var (pv 0)))) (g_strong (g_tup rfl (g_cons (g_name (vs := [2, 3]) sc_sides_of.nd rfl (by first | exact .inl rfl | exact .inr rfl) (by decide)) (g_cons (g_name (vs := [2, 3]) sc_sides_of.nd rfl (by first | exact .inl rfl | exact .inr rfl) (by decide)) g_nil)) rfl))) (z_cons (z_if (t_cmp (op_eqD hr.units) s_eq (e_var (pv 1)) e_int (nomark _)) (z_one (z_ret (e_tup (a_cons (e_frz (e_var (pv 2))) (a_cons (e_frz (e_var (pv 3))) a_nil))))) z_nil) (z_cons (z_if (t_cmp (op_eqD hr.units) s_eq (e_var (pv 1)) e_int (nomark _)) (z_one (z_ret (e_tup (a_cons (e_frz (e_var (pv 3))) (a_cons (e_frz (e_var (pv 2))) a_nil))))) z_nil) (z_one (z_raise (n := 7) T.xf rfl tk (by decide) (by decide) rfl (by rfl))))))
theorem ok_sides_of (T : Txt K mg) : FnOk P w K mg base (L2.CX P w) 2 T.f_sides_of T.d_sides_of ["sided", "side"] (spOf ⟨K, mg, noG⟩ sp_sides_of) := fn_dt T.F_sides_of sc_sides_of (by intro os PP PX h; unfold sp_sides_of at h; first | exact h.elim | (split at h <;> first | rfl | exact h.elim)) (fun cdv A outer s H E hr => dd_sides_of T cdv A outer s H E hr) pf_sides_of
theorem dd_taken (T : Txt K mg) (cdv : Value) (A : Around) (outer : List Env) (s : Shared) (H : Hp) (E : XK) (hr : Room 1 (A.deeper (envOfC "taken" (defScope s_taken) s.heap.objs.size T.f_taken cdv))) : PSsd (cxOf (L2.CX P w) P w K mg base ["one", "other", "left", "part"] "taken" (defScope s_taken) T.f_taken cdv A outer s H E) noG (fun cls d _ H => E cls d H) (defBody s_taken) b_taken :=
  have tk : Takes (cxOf (L2.CX P w) P w K mg base ["one", "other", "left", "part"] "taken" (defScope s_taken) T.f_taken cdv A outer s H E) (fun cls d _ H => E cls d H) := takes_of rfl rfl rfl rfl
  (z_cons (z_if (t_not (t_tru (e_call (ok_lies_in T) tk (hr.mono (by decide)) (by rfl) T.g_lies_in T.F_lies_in.kp T.b_lies_in (a_cons (e_frz (e_var (pv 0))) (a_cons (e_frz (e_var (pv 1))) a_nil))))) (z_one (z_raise (n := 2) T.xf rfl tk (by decide) (by decide) rfl (by rfl))) z_nil) (z_cons (z_set (i := 2) sc_taken.nd rfl (by first | exact .inl rfl | exact .inr rfl) (e_cty call_list_of s_list (by rfl) T.z_list (by decide +kernel) (a_cons (e_var (pv 1)) a_nil))) (z_cons (z_for (passes_of rfl) rfl (i_seq (e_frz (e_var (pv 0)))) (g_name (vs := [3]) sc_taken.nd rfl (by first | exact .inl rfl | exact .inr rfl) (by decide)) (z_one (z_expr (e_mu PySem.F.slot_list_remove PySem.F.type_list_remove mt_remove s_rem (e_var (pv 2)) (a_cons (e_frz (e_var (pv 3))) a_nil))))) (z_one (z_ret (e_cty call_tupleF s_tuple (by rfl) T.z_tuple (by decide +kernel) (a_cons (e_var (pv 2)) a_nil)))))))
theorem ok_taken (T : Txt K mg) : FnOk P w K mg base (L2.CX P w) 2 T.f_taken T.d_taken ["one", "other"] (spOf ⟨K, mg, noG⟩ sp_taken) := fn_dt T.F_taken sc_taken (by intro os PP PX h; unfold sp_taken at h; first | exact h.elim | (split at h <;> first | rfl | exact h.elim)) (fun cdv A outer s H E hr => dd_taken T cdv A outer s H E hr) pf_taken
theorem dd_crossed (T : Txt K mg) (cdv : Value) (A : Around) (outer : List Env) (s : Shared) (H : Hp) (E : XK) (hr : Room 4 (A.deeper (envOfC "crossed" (defScope s_crossed) s.heap.objs.size T.f_crossed cdv))) : PSsd (cxOf (L2.CX P w) P w K mg base ["sided", "place", "side", "heap", "choice", "rule", "other", "left"] "crossed" (defScope s_crossed) T.f_crossed cdv A outer s H E) noG (fun cls d _ H => E cls d H) (defBody s_crossed) b_crossed :=
  have tk : Takes (cxOf (L2.CX P w) P w K mg base ["sided", "place", "side", "heap", "choice", "rule", "other", "left"] "crossed" (defScope s_crossed) T.f_crossed cdv A outer s H E) (fun cls d _ H => E cls d H) := takes_of rfl rfl rfl rfl
  (z_cons (z_asgT (vs := [2, 3, 4]) (e_frz (e_var (pv 1))) (g_strong (g_tup rfl (g_cons (g_name (vs := [2, 3, 4]) sc_crossed.nd rfl (by first | exact .inl rfl | exact .inr rfl) (by decide)) (g_cons (g_name (vs := [2, 3, 4]) sc_crossed.nd rfl (by first | exact .inl rfl | exact .inr rfl) (by decide)) (g_cons (g_name (vs := [2, 3, 4]) sc_crossed.nd rfl (by first | exact .inl rfl | exact .inr rfl) (by decide)) g_nil))) rfl))) (z_cons (z_asgT (vs := [5, 6]) (e_frz (e_call (ok_sides_of T) tk (hr.mono (by decide)) (by rfl) T.g_sides_of T.F_sides_of.kp T.b_sides_of (a_cons (e_frz (e_var (pv 0))) (a_cons (e_frz (e_var (pv 2))) a_nil)))) (g_strong (g_tup rfl (g_cons (g_name (vs := [5, 6]) sc_crossed.nd rfl (by first | exact .inl rfl | exact .inr rfl) (by decide)) (g_cons (g_name (vs := [5, 6]) sc_crossed.nd rfl (by first | exact .inl rfl | exact .inr rfl) (by decide)) g_nil)) rfl))) (z_stp (z_cons (z_expr (e_call (ok_held_pair T) tk (hr.mono (by decide)) (by rfl) T.g_held_pair T.F_held_pair.kp T.b_held_pair (a_cons (e_frz (e_var (pv 5))) (a_cons (e_tup (a_cons (e_frz (e_var (pv 3))) (a_cons (e_frz (e_var (pv 4))) a_nil))) a_nil)))) (z_cons (z_set (i := 7) sc_crossed.nd rfl (by first | exact .inl rfl | exact .inr rfl) (e_call (ok_taken T) tk (hr.mono (by decide)) (by rfl) T.g_taken T.F_taken.kp T.b_taken (a_cons (e_frz (e_call (ok_joined_of T) tk (hr.mono (by decide)) (by rfl) T.g_joined_of T.F_joined_of.kp T.b_joined_of (a_cons (e_frz (e_var (pv 5))) (a_cons (e_frz (e_var (pv 4))) a_nil)))) (a_cons (e_frz (e_var (pv 3))) a_nil)))) (z_one (z_ret (e_tup (a_cons (e_frz (e_op op_sub s_sub e_int (e_var (pv 2)))) (a_cons (e_frz (e_call (ok_put T) tk (hr.mono (by decide)) (by rfl) T.g_put T.F_put.kp T.b_put (a_cons (e_frz (e_call (ok_joined_of T) tk (hr.mono (by decide)) (by rfl) T.g_joined_of T.F_joined_of.kp T.b_joined_of (a_cons (e_frz (e_var (pv 6))) (a_cons (e_frz (e_var (pv 4))) a_nil)))) (a_cons (e_frz (e_var (pv 7))) a_nil)))) (a_cons (e_frz (e_var (pv 4))) a_nil)))))))))))
theorem ok_crossed (T : Txt K mg) : FnOk P w K mg base (L2.CX P w) 5 T.f_crossed T.d_crossed ["sided", "place"] (spOf ⟨K, mg, noG⟩ sp_crossed) := fn_dt T.F_crossed sc_crossed (by intro os PP PX h; unfold sp_crossed at h; first | exact h.elim | (split at h <;> first | rfl | exact h.elim)) (fun cdv A outer s H E hr => dd_crossed T cdv A outer s H E hr) pf_crossed
theorem dd_keeps (T : Txt K mg) (cdv : Value) (A : Around) (outer : List Env) (s : Shared) (H : Hp) (E : XK) (hr : Room 3 (A.deeper (envOfC "keeps" (defScope s_keeps) s.heap.objs.size T.f_keeps cdv))) : PSsd (cxOf (L2.CX P w) P w K mg base ["rule", "heap"] "keeps" (defScope s_keeps) T.f_keeps cdv A outer s H E) noG (fun cls d _ H => E cls d H) (defBody s_keeps) b_keeps :=
  have tk : Takes (cxOf (L2.CX P w) P w K mg base ["rule", "heap"] "keeps" (defScope s_keeps) T.f_keeps cdv A outer s H E) (fun cls d _ H => E cls d H) := takes_of rfl rfl rfl rfl
  (z_one (z_ret (e_cmp op_isD s_is (e_call (ok_first_in T) tk (hr.mono (by decide)) (by rfl) T.g_first_in T.F_first_in.kp T.b_first_in (a_cons (e_frz (e_var (pv 0))) (a_cons (e_frz (e_var (pv 1))) a_nil))) e_non (nomark _))))
theorem ok_keeps (T : Txt K mg) : FnOk P w K mg base (L2.CX P w) 4 T.f_keeps T.d_keeps ["rule", "heap"] (spOf ⟨K, mg, noG⟩ sp_keeps) := fn_dt T.F_keeps sc_keeps (by intro os PP PX h; unfold sp_keeps at h; first | exact h.elim | (split at h <;> first | rfl | exact h.elim)) (fun cdv A outer s H E hr => dd_keeps T cdv A outer s H E hr) pf_keeps
theorem dd_partner_of (T : Txt K mg) (cdv : Value) (A : Around) (outer : List Env) (s : Shared) (H : Hp) (E : XK) (hr : Room 3 (A.deeper (envOfC "partner_of" (defScope s_partner_of) s.heap.objs.size T.f_partner_of cdv))) : PSsd (cxOf (L2.CX P w) P w K mg base ["rule", "pair", "heap", "choice", "first", "number"] "partner_of" (defScope s_partner_of) T.f_partner_of cdv A outer s H E) noG (fun cls d _ H => E cls d H) (defBody s_partner_of) b_partner_of :=
  have tk : Takes (cxOf (L2.CX P w) P w K mg base ["rule", "pair", "heap", "choice", "first", "number"] "partner_of" (defScope s_partner_of) T.f_partner_of cdv A outer s H E) (fun cls d _ H => E cls d H) := takes_of rfl rfl rfl rfl
  (z_cons (z_asgT (vs := [2, 3]) (e_frz (e_call (ok_held_pair T) tk (hr.mono (by decide)) (by rfl) T.g_held_pair T.F_held_pair.kp T.b_held_pair (a_cons (e_frz (e_var (pv 0))) (a_cons (e_frz (e_var (pv 1))) a_nil)))) (g_strong (g_tup rfl (g_cons (g_name (vs := [2, 3]) sc_partner_of.nd rfl (by first | exact .inl rfl | exact .inr rfl) (by decide)) (g_cons (g_name (vs := [2, 3]) sc_partner_of.nd rfl (by first | exact .inl rfl | exact .inr rfl) (by decide)) g_nil)) rfl))) (z_cons (z_set (i := 4) sc_partner_of.nd rfl (by first | exact .inl rfl | exact .inr rfl) (e_call (ok_first_in T) tk (hr.mono (by decide)) (by rfl) T.g_first_in T.F_first_in.kp T.b_first_in (a_cons (e_frz (e_var (pv 0))) (a_cons (e_frz (e_var (pv 2))) a_nil)))) (z_cons (z_if (t_cmp op_isD s_is (e_var (pv 4)) e_non (nomark _)) (z_one (z_ret e_non)) z_nil) (z_stp (z_cons (z_if (t_cmp (op_inD hr.units) s_in (e_var (pv 4)) (e_var (pv 3)) (by rfl)) (z_one (z_ret (e_tup (a_cons (e_frz (e_var (pv 2))) (a_cons (e_cty call_tupleF s_tuple (by rfl) T.z_tuple (by decide +kernel) (a_cons (e_comp (own := [("number", 5)]) rfl sc_partner_of.nd (i_seq (e_frz (e_var (pv 3)))) (@blkOk_by ["rule", "pair", "heap", "choice", "first", "number"] (defScope s_partner_of) _ _ (by decide +kernel)) (fun _ _ _ _ _ => (g_name (vs := ([("number", 5)] : List (Str × Nat)).map (·.2)) sc_partner_of.nd rfl (by first | exact .inl rfl | exact .inr rfl) (by decide))) (fun _ _ _ _ _ => (ts_one (t_cmp (op_neD hr.units) s_ne (e_var (pv 5)) (e_var (pv 4)) (nomark _)))) (fun _ _ _ _ _ => (e_frz (e_var (pv 5))))) a_nil)) a_nil))))) z_nil) (z_stp (z_one (z_ret (e_tup (a_cons (e_frz (e_var (pv 2))) (a_cons (e_cty call_tupleF s_tuple (by rfl) T.z_tuple (by decide +kernel) (a_cons (e_cb cr_srt s_sort (by rfl) T.z_sorted (by decide +kernel) (a_cons (e_op op_addD s_add (e_var (pv 3)) (e_tup (a_cons (e_frz (e_var (pv 4))) a_nil))) a_nil)) a_nil)) a_nil)))))))))))
theorem ok_partner_of (T : Txt K mg) : FnOk P w K mg base (L2.CX P w) 4 T.f_partner_of T.d_partner_of ["rule", "pair"] (spOf ⟨K, mg, noG⟩ sp_partner_of) := fn_dt T.F_partner_of sc_partner_of (by intro os PP PX h; unfold sp_partner_of at h; first | exact h.elim | (split at h <;> first | rfl | exact h.elim)) (fun cdv A outer s H E hr => dd_partner_of T cdv A outer s H E hr) pf_partner_of
theorem dd_toggled (T : Txt K mg) (cdv : Value) (A : Around) (outer : List Env) (s : Shared) (H : Hp) (E : XK) (hr : Room 4 (A.deeper (envOfC "toggled" (defScope s_toggled) s.heap.objs.size T.f_toggled cdv))) : PSsd (cxOf (L2.CX P w) P w K mg base ["sided", "place", "side", "heap", "choice", "partner"] "toggled" (defScope s_toggled) T.f_toggled cdv A outer s H E) noG (fun cls d _ H => E cls d H) (defBody s_toggled) b_toggled :=
  have tk : Takes (cxOf (L2.CX P w) P w K mg base ["sided", "place", "side", "heap", "choice", "partner"] "toggled" (defScope s_toggled) T.f_toggled cdv A outer s H E) (fun cls d _ H => E cls d H) := takes_of rfl rfl rfl rfl
  (z_cons (z_asgT (vs := [2, 3, 4]) (e_frz (e_var (pv 1))) (g_strong (g_tup rfl (g_cons (g_name (vs := [2, 3, 4]) sc_toggled.nd rfl (by first | exact .inl rfl | exact .inr rfl) (by decide)) (g_cons (g_name (vs := [2, 3, 4]) sc_toggled.nd rfl (by first | exact .inl rfl | exact .inr rfl) (by decide)) (g_cons (g_name (vs := [2, 3, 4]) sc_toggled.nd rfl (by first | exact .inl rfl | exact .inr rfl) (by decide)) g_nil))) rfl))) (z_cons (z_set (i := 5) sc_toggled.nd rfl (by first | exact .inl rfl | exact .inr rfl) (e_call (ok_partner_of T) tk (hr.mono (by decide)) (by rfl) T.g_partner_of T.F_partner_of.kp T.b_partner_of (a_cons (e_frz (e_ix (e_call (ok_sides_of T) tk (hr.mono (by decide)) (by rfl) T.g_sides_of T.F_sides_of.kp T.b_sides_of (a_cons (e_frz (e_var (pv 0))) (a_cons (e_frz (e_var (pv 2))) a_nil))) e_int)) (a_cons (e_tup (a_cons (e_frz (e_var (pv 3))) (a_cons (e_frz (e_var (pv 4))) a_nil))) a_nil)))) (z_cons (z_if (t_cmp op_isD s_is (e_var (pv 5)) e_non (nomark _)) (z_one (z_raise (n := 8) T.xf rfl tk (by decide) (by decide) rfl (by rfl))) z_nil) (z_one (z_ret (e_tup (a_cons (e_frz (e_var (pv 2))) (a_cons (e_frz (e_ix (e_var (pv 5)) e_int)) (a_cons (e_frz (e_ix (e_var (pv 5)) e_int)) a_nil)))))))))
theorem ok_toggled (T : Txt K mg) : FnOk P w K mg base (L2.CX P w) 5 T.f_toggled T.d_toggled ["sided", "place"] (spOf ⟨K, mg, noG⟩ sp_toggled) := fn_dt T.F_toggled sc_toggled (by intro os PP PX h; unfold sp_toggled at h; first | exact h.elim | (split at h <;> first | rfl | exact h.elim)) (fun cdv A outer s H E hr => dd_toggled T cdv A outer s H E hr) pf_toggled
theorem dd_next_place (T : Txt K mg) (cdv : Value) (A : Around) (outer : List Env) (s : Shared) (H : Hp) (E : XK) (hr : Room 5 (A.deeper (envOfC "next_place" (defScope s_next_place) s.heap.objs.size T.f_next_place cdv))) : PSsd (cxOf (L2.CX P w) P w K mg base ["sided", "place", "toggle"] "next_place" (defScope s_next_place) T.f_next_place cdv A outer s H E) noG (fun cls d _ H => E cls d H) (defBody s_next_place) b_next_place :=
  have tk : Takes (cxOf (L2.CX P w) P w K mg base ["sided", "place", "toggle"] "next_place" (defScope s_next_place) T.f_next_place cdv A outer s H E) (fun cls d _ H => E cls d H) := takes_of rfl rfl rfl rfl
  (z_cons (z_if (t_not (t_tru (e_var (pv 2)))) (z_one (z_ret (e_call (ok_crossed T) tk (hr.mono (by decide)) (by rfl) T.g_crossed T.F_crossed.kp T.b_crossed (a_cons (e_frz (e_var (pv 0))) (a_cons (e_frz (e_var (pv 1))) a_nil))))) z_nil) (z_stp (z_cons (z_if (pt_of_pw (t_and (t_cmp (op_eqD hr.units) s_eq (e_ix (e_var (pv 1)) e_int) e_int (nomark _)) (t_and1 (t_tru (e_call (ok_keeps T) tk (hr.mono (by decide)) (by rfl) T.g_keeps T.F_keeps.kp T.b_keeps (a_cons (e_frz (e_ix (e_meth0 T.bes T.m_Beside_rules (by decide) (by decide) (ok_Beside_rules T) tk (hr.mono (by decide)) T.b_Beside_rules (e_var (pv 0))) e_int)) (a_cons (e_frz (e_ix (e_var (pv 1)) e_int)) a_nil))))))) (z_one (z_ret e_non)) z_nil) (z_stp (z_one (z_ret (e_call (ok_toggled T) tk (hr.mono (by decide)) (by rfl) T.g_toggled T.F_toggled.kp T.b_toggled (a_cons (e_frz (e_var (pv 0))) (a_cons (e_frz (e_var (pv 1))) a_nil)))))))))
theorem ok_next_place (T : Txt K mg) : FnOk P w K mg base (L2.CX P w) 6 T.f_next_place T.d_next_place ["sided", "place", "toggle"] (spOf ⟨K, mg, noG⟩ sp_next_place) := fn_dt T.F_next_place sc_next_place (by intro os PP PX h; unfold sp_next_place at h; first | exact h.elim | (split at h <;> first | rfl | exact h.elim)) (fun cdv A outer s H E hr => dd_next_place T cdv A outer s H E hr) pf_next_place
theorem dd_walk_of (T : Txt K mg) (cdv : Value) (A : Around) (outer : List Env) (s : Shared) (H : Hp) (E : XK) (hr : Room 6 (A.deeper (envOfC "walk_of" (defScope s_walk_of) s.heap.objs.size T.f_walk_of cdv))) : PSsd (cxOf (L2.CX P w) P w K mg base ["sided", "heap", "most", "rows", "place"] "walk_of" (defScope s_walk_of) T.f_walk_of cdv A outer s H E) noG (fun cls d _ H => E cls d H) (defBody s_walk_of) b_walk_of :=
  have tk : Takes (cxOf (L2.CX P w) P w K mg base ["sided", "heap", "most", "rows", "place"] "walk_of" (defScope s_walk_of) T.f_walk_of cdv A outer s H E) (fun cls d _ H => E cls d H) := takes_of rfl rfl rfl rfl
  (z_cons (z_expr (e_call (ok_held_keeper T) tk (hr.mono (by decide)) (by rfl) T.g_held_keeper T.F_held_keeper.kp T.b_held_keeper (a_cons (e_frz (e_var (pv 0))) (a_cons (e_frz (e_var (pv 1))) a_nil)))) (z_cons (z_set (i := 3) sc_walk_of.nd rfl (by first | exact .inl rfl | exact .inr rfl) (e_lst (a_cons (e_tup (a_cons e_int (a_cons (e_frz (e_var (pv 1))) (a_cons (e_tup a_nil) a_nil)))) a_nil))) (z_stp (z_cons (z_set (i := 4) sc_walk_of.nd rfl (by first | exact .inl rfl | exact .inr rfl) (e_call (ok_next_place T) tk (hr.mono (by decide)) (by rfl) T.g_next_place T.F_next_place.kp T.b_next_place (a_cons (e_frz (e_var (pv 0))) (a_cons (e_frz (e_ix (e_var (pv 3)) e_int)) (a_cons e_bl a_nil))))) (z_stp (z_cons (z_while (passes_of rfl) (t_cmp op_isNotD s_isNot (e_var (pv 4)) e_non (nomark _)) (z_cons (z_if (t_cmp op_ge s_ge (e_cb call_len s_len (by rfl) T.z_len (by decide +kernel) (a_cons (e_var (pv 3)) a_nil)) (e_var (pv 2)) (nomark _)) (z_one (z_raiseF (n := 20) (fs := ["place"]) T.xf rfl tk (by decide) (ini_20 T) rfl (hr.mono (by decide)) (by rfl) (by decide) (by decide) (a_cons (e_frz (e_ix (e_var (pv 3)) (e_un un_neg s_neg e_int))) a_nil))) z_nil) (z_stp (z_cons (z_expr (e_mu PySem.F.slot_list_append PySem.F.type_list_append mt_append s_app (e_var (pv 3)) (a_cons (e_frz (e_var (pv 4))) a_nil))) (z_one (z_set (i := 4) sc_walk_of.nd rfl (by first | exact .inl rfl | exact .inr rfl) (e_call (ok_next_place T) tk (hr.mono (by decide)) (by rfl) T.g_next_place T.F_next_place.kp T.b_next_place (a_cons (e_frz (e_var (pv 0))) (a_cons (e_frz (e_var (pv 4))) (a_cons (e_cmp (op_eqD hr.units) s_eq (e_op op_mod s_mod (e_cb call_len s_len (by rfl) T.z_len (by decide +kernel) (a_cons (e_var (pv 3)) a_nil)) e_int) e_int (nomark _)) a_nil)))))))))) (z_stp (z_one (z_ret (e_var (pv 3)))))))))))
theorem ok_walk_of (T : Txt K mg) : FnOk P w K mg base (L2.CX P w) 7 T.f_walk_of T.d_walk_of ["sided", "heap", "most"] (spOf ⟨K, mg, noG⟩ sp_walk_of) := fn_dtD T.F_walk_of sc_walk_of (by intro os PP PX h; unfold sp_walk_of at h; first | exact h.elim | (split at h <;> first | rfl | exact h.elim)) (fun cdv A outer s H E hr => dd_walk_of T cdv A outer s H E hr) pf_walk_of
theorem dd__law_told (T : Txt K mg) (cdv : Value) (A : Around) (outer : List Env) (s : Shared) (H : Hp) (E : XK) (hr : Room 7 (A.deeper (envOfC "_law_told" (defScope s__law_told) s.heap.objs.size T.f__law_told cdv))) : PSsd (cxOf (L2.CX P w) P w K mg base ["_law_sided", "_law_heap_here", "_law_told_here", "e"] "_law_told" (defScope s__law_told) T.f__law_told cdv A outer s H E) noG (fun cls d _ H => E cls d H) (defBody s__law_told) b__law_told :=
  have tk : Takes (cxOf (L2.CX P w) P w K mg base ["_law_sided", "_law_heap_here", "_law_told_here", "e"] "_law_told" (defScope s__law_told) T.f__law_told cdv A outer s H E) (fun cls d _ H => E cls d H) := takes_of rfl rfl rfl rfl
  (z_cons (z_set (i := 2) sc__law_told.nd rfl (by first | exact .inl rfl | exact .inr rfl) e_non) (z_cons (z_try T.xf rfl rfl sc__law_told.nd tk (fun W pn xe tk _ => (z_one (z_set (i := 2) sc__law_told.nd rfl (by first | exact .inl rfl | exact .inr rfl) (e_call (ok_walk_of T) tk (hr.mono (by decide)) (by rfl) T.g_walk_of T.F_walk_of.kp T.b_walk_of (a_cons (e_frz (e_var (pv 0))) (a_cons (e_frz (e_var (pv 1))) (a_cons e_int a_nil))))))) (.named (T := 20) (i := 3) rfl (by decide) (by rfl) (by decide) rfl rfl (fun a oe cls d pn hz hf => (z_one (z_set (i := 2) sc__law_told.nd rfl (by first | exact .inl rfl | exact .inr rfl) (e_tup (a_cons (e_frz (e_fld (n0 := [20]) T.xf (inHand_suite hz hf) (nof_place T) (e_var (pv 3)))) (a_cons e_int a_nil)))))) (.named (T := 18) (i := 3) rfl (by decide) (by rfl) (by decide) rfl rfl (fun a oe cls d pn hz hf => (z_one (z_set (i := 2) sc__law_told.nd rfl (by first | exact .inl rfl | exact .inr rfl) (e_tup (a_cons (e_frz (e_fld (n0 := [18]) T.xf (inHand_suite hz hf) (nof_number T) (e_var (pv 3)))) (a_cons e_int a_nil)))))) .nil)) z_nil) (z_one (z_ret (e_var (pv 2))))))
theorem ok__law_told (T : Txt K mg) : FnOk P w K mg base (L2.CX P w) 8 T.f__law_told T.d__law_told ["_law_sided", "_law_heap_here"] (spOf ⟨K, mg, noG⟩ sp__law_told) := fn_dt T.F__law_told sc__law_told (by intro os PP PX h; unfold sp__law_told at h; first | exact h.elim | (split at h <;> first | rfl | exact h.elim)) (fun cdv A outer s H E hr => dd__law_told T cdv A outer s H E hr) pf__law_told
theorem dd__law_lane (T : Txt K mg) (cdv : Value) (A : Around) (outer : List Env) (s : Shared) (H : Hp) (E : XK) (hr : Room 0 (A.deeper (envOfC "_law_lane" (defScope s__law_lane) s.heap.objs.size T.f__law_lane cdv))) : PSsd (cxOf (L2.CX P w) P w K mg base ["_law_left", "_law_right", "_law_split", "_law_levels", "_law_base", "_law_by", "_law_ones", "_law_others", "_law_level"] "_law_lane" (defScope s__law_lane) T.f__law_lane cdv A outer s H E) noG (fun cls d _ H => E cls d H) (defBody s__law_lane) b__law_lane :=
  have tk : Takes (cxOf (L2.CX P w) P w K mg base ["_law_left", "_law_right", "_law_split", "_law_levels", "_law_base", "_law_by", "_law_ones", "_law_others", "_law_level"] "_law_lane" (defScope s__law_lane) T.f__law_lane cdv A outer s H E) (fun cls d _ H => E cls d H) := takes_of rfl rfl rfl rfl
  (z_cons (z_set (i := 4) sc__law_lane.nd rfl (by first | exact .inl rfl | exact .inr rfl) (e_op op_mulD s_mul (e_var (pv 0)) (e_var (pv 1)))) (z_cons (z_for (passes_of rfl) rfl (i_r2 (by rfl) T.z_range (a_cons e_int (a_cons e_int a_nil))) (g_name (vs := [5]) sc__law_lane.nd rfl (by first | exact .inl rfl | exact .inr rfl) (by decide)) (z_one (z_while (passes_of rfl) (pt_of_pw (t_and (t_cmp (op_eqD hr.units) s_eq (e_op op_mod s_mod (e_var (pv 0)) (e_var (pv 5))) e_int (nomark _)) (t_and1 (t_cmp (op_eqD hr.units) s_eq (e_op op_mod s_mod (e_var (pv 1)) (e_var (pv 5))) e_int (nomark _))))) (z_cons (z_set (i := 0) sc__law_lane.nd rfl (by first | exact .inl rfl | exact .inr rfl) (e_op op_fdivW s_fdiv (e_var (pv 0)) (e_var (pv 5)))) (z_cons (z_set (i := 1) sc__law_lane.nd rfl (by first | exact .inl rfl | exact .inr rfl) (e_op op_fdivW s_fdiv (e_var (pv 1)) (e_var (pv 5)))) (z_one (z_set (i := 4) sc__law_lane.nd rfl (by first | exact .inl rfl | exact .inr rfl) (e_op op_fdivW s_fdiv (e_var (pv 4)) (e_var (pv 5)))))))))) (z_stp (z_cons (z_par2 (i := 0) (j := 1) rfl sc__law_lane.nd rfl rfl (by decide) rfl rfl (a_cons (e_frz (e_op op_fdivW s_fdiv (e_var (pv 4)) (e_var (pv 1)))) (a_cons (e_frz (e_op op_fdivW s_fdiv (e_var (pv 4)) (e_var (pv 0)))) a_nil)) (by with_unfolding_all rfl)) (z_cons (z_set (i := 6) sc__law_lane.nd rfl (by first | exact .inl rfl | exact .inr rfl) (e_lst a_nil)) (z_cons (z_set (i := 7) sc__law_lane.nd rfl (by first | exact .inl rfl | exact .inr rfl) (e_lst a_nil)) (z_cons (z_for (passes_of rfl) rfl (i_seq (e_frz (e_var (pv 3)))) (g_name (vs := [8]) sc__law_lane.nd rfl (by first | exact .inl rfl | exact .inr rfl) (by decide)) (z_one (z_if (t_tru (e_var (pv 2))) (z_cons (z_expr (e_mu PySem.F.slot_list_append PySem.F.type_list_append mt_append s_app (e_var (pv 6)) (a_cons (e_frz (e_op op_mulD s_mul (e_lst (a_cons (e_frz (e_var (pv 0))) a_nil)) (e_var (pv 8)))) a_nil))) (z_one (z_expr (e_mu PySem.F.slot_list_append PySem.F.type_list_append mt_append s_app (e_var (pv 7)) (a_cons (e_frz (e_sl (e_op op_addD s_add (e_lst (a_cons (e_frz (e_var (pv 0))) a_nil)) (e_op op_mulD s_mul (e_lst (a_cons (e_frz (e_var (pv 1))) a_nil)) (e_op op_fdivW s_fdiv (e_var (pv 0)) (e_var (pv 1))))) o_none (o_some (e_ix (e_lst (a_cons e_int (a_cons e_int (a_cons (e_frz (e_op op_addD s_add e_int (e_op op_fdivW s_fdiv (e_var (pv 0)) (e_var (pv 1))))) a_nil)))) (e_var (pv 8)))))) a_nil))))) (z_cons (z_expr (e_mu PySem.F.slot_list_append PySem.F.type_list_append mt_append s_app (e_var (pv 6)) (a_cons (e_frz (e_op op_mulD s_mul (e_lst (a_cons (e_frz (e_var (pv 0))) a_nil)) (e_op op_mulD s_mul (e_var (pv 8)) (e_op op_fdivW s_fdiv (e_var (pv 4)) (e_var (pv 0)))))) a_nil))) (z_one (z_expr (e_mu PySem.F.slot_list_append PySem.F.type_list_append mt_append s_app (e_var (pv 7)) (a_cons (e_frz (e_op op_mulD s_mul (e_lst (a_cons (e_frz (e_var (pv 1))) a_nil)) (e_op op_mulD s_mul (e_var (pv 8)) (e_op op_fdivW s_fdiv (e_var (pv 4)) (e_var (pv 1)))))) a_nil)))))))) (z_stp (z_one (z_ret (e_tup (a_cons (e_frz (e_var (pv 6))) (a_cons (e_frz (e_var (pv 7))) a_nil)))))))))))))
theorem ok__law_lane (T : Txt K mg) : FnOk P w K mg base (L2.CX P w) 1 T.f__law_lane T.d__law_lane ["_law_left", "_law_right", "_law_split", "_law_levels"] (spOf ⟨K, mg, noG⟩ sp__law_lane) := fn_dt T.F__law_lane sc__law_lane (by intro os PP PX h; unfold sp__law_lane at h; first | exact h.elim | (split at h <;> first | rfl | exact h.elim)) (fun cdv A outer s H E hr => dd__law_lane T cdv A outer s H E hr) pf__law_lane
theorem dd__law_rule (T : Txt K mg) (cdv : Value) (A : Around) (outer : List Env) (s : Shared) (H : Hp) (E : XK) (hr : Room 0 (A.deeper (envOfC "_law_rule" (defScope s__law_rule) s.heap.objs.size T.f__law_rule cdv))) : PSsd (cxOf (L2.CX P w) P w K mg base ["_law_rows", "_law_row"] "_law_rule" (defScope s__law_rule) T.f__law_rule cdv A outer s H E) noG (fun cls d _ H => E cls d H) (defBody s__law_rule) b__law_rule :=
  have tk : Takes (cxOf (L2.CX P w) P w K mg base ["_law_rows", "_law_row"] "_law_rule" (defScope s__law_rule) T.f__law_rule cdv A outer s H E) (fun cls d _ H => E cls d H) := takes_of rfl rfl rfl rfl
  (z_one (z_ret (e_cty call_tupleF s_tuple (by rfl) T.z_tuple (by decide +kernel) (a_cons (e_comp (own := [("_law_row", 1)]) rfl sc__law_rule.nd (i_seq (e_frz (e_var (pv 0)))) (@blkOk_by ["_law_rows", "_law_row"] (defScope s__law_rule) _ _ (by decide +kernel)) (fun _ _ _ _ _ => (g_name (vs := ([("_law_row", 1)] : List (Str × Nat)).map (·.2)) sc__law_rule.nd rfl (by first | exact .inl rfl | exact .inr rfl) (by decide))) (fun _ _ _ _ _ => ts_nil) (fun _ _ _ _ _ => (e_cty call_tupleF s_tuple (by rfl) T.z_tuple (by decide +kernel) (a_cons (e_sortR (by rfl) T.z_sorted (a_cons (e_var (pv 1)) a_nil)) a_nil)))) a_nil))))
theorem ok__law_rule (T : Txt K mg) : FnOk P w K mg base (L2.CX P w) 1 T.f__law_rule T.d__law_rule ["_law_rows"] (spOf ⟨K, mg, noG⟩ sp__law_rule) := fn_dt T.F__law_rule sc__law_rule (by intro os PP PX h; unfold sp__law_rule at h; first | exact h.elim | (split at h <;> first | rfl | exact h.elim)) (fun cdv A outer s H E hr => dd__law_rule T cdv A outer s H E hr) pf__law_rule
theorem dd__law_matched (T : Txt K mg) (cdv : Value) (A : Around) (outer : List Env) (s : Shared) (H : Hp) (E : XK) (hr : Room 2 (A.deeper (envOfC "_law_matched" (defScope s__law_matched) s.heap.objs.size T.f__law_matched cdv))) : PSsd (cxOf (L2.CX P w) P w K mg base ["_law_state", "_law_top", "_law_many", "_law_ones", "_law_k", "_law_others", "_law_lefts", "_law_rights", "_law_lane_here", "_law_left", "_law_right", "_law_split", "_law_levels", "_law_mine", "_law_theirs", "_law_heap_here", "_law_more"] "_law_matched" (defScope s__law_matched) T.f__law_matched cdv A outer s H E) noG (fun cls d _ H => E cls d H) (defBody s__law_matched) b__law_matched :=
  have tk : Takes (cxOf (L2.CX P w) P w K mg base ["_law_state", "_law_top", "_law_many", "_law_ones", "_law_k", "_law_others", "_law_lefts", "_law_rights", "_law_lane_here", "_law_left", "_law_right", "_law_split", "_law_levels", "_law_mine", "_law_theirs", "_law_heap_here", "_law_more"] "_law_matched" (defScope s__law_matched) T.f__law_matched cdv A outer s H E) (fun cls d _ H => E cls d H) := takes_of rfl rfl rfl rfl
  (z_cons (z_set (i := 2) sc__law_matched.nd rfl (by first | exact .inl rfl | exact .inr rfl) (e_callM (ok__law_draw T) tk (hr.mono (by decide)) (by rfl) T.g__law_draw T.F__law_draw.kp T.b__law_draw (a_cons (e_var (pv 0)) (a_cons (e_frz (e_op op_addD s_add (e_var (pv 1)) e_int)) a_nil)))) (z_cons (z_setComp (j := 3) (hyl := rfl) (hy := rfl) (hsw := sw_true rfl rfl rfl (by decide +kernel)) (own := [("_law_k", 4)]) rfl sc__law_matched.nd (i_r1 (by rfl) T.z_range (a_cons (e_var (pv 2)) a_nil)) (@blkOk_by ["_law_state", "_law_top", "_law_many", "_law_ones", "_law_k", "_law_others", "_law_lefts", "_law_rights", "_law_lane_here", "_law_left", "_law_right", "_law_split", "_law_levels", "_law_mine", "_law_theirs", "_law_heap_here", "_law_more"] (defScope s__law_matched) _ _ (by decide +kernel)) (fun _ _ _ _ _ => (g_name (vs := ([("_law_k", 4)] : List (Str × Nat)).map (·.2)) sc__law_matched.nd rfl (by first | exact .inl rfl | exact .inr rfl) (by decide))) (fun _ _ _ _ _ => ts_nil) (fun _ _ _ _ _ => (e_frz (e_lst a_nil)))) (z_cons (z_setComp (j := 5) (hyl := rfl) (hy := rfl) (hsw := sw_true rfl rfl rfl (by decide +kernel)) (own := [("_law_k", 4)]) rfl sc__law_matched.nd (i_r1 (by rfl) T.z_range (a_cons (e_var (pv 2)) a_nil)) (@blkOk_by ["_law_state", "_law_top", "_law_many", "_law_ones", "_law_k", "_law_others", "_law_lefts", "_law_rights", "_law_lane_here", "_law_left", "_law_right", "_law_split", "_law_levels", "_law_mine", "_law_theirs", "_law_heap_here", "_law_more"] (defScope s__law_matched) _ _ (by decide +kernel)) (fun _ _ _ _ _ => (g_name (vs := ([("_law_k", 4)] : List (Str × Nat)).map (·.2)) sc__law_matched.nd rfl (by first | exact .inl rfl | exact .inr rfl) (by decide))) (fun _ _ _ _ _ => ts_nil) (fun _ _ _ _ _ => (e_frz (e_lst a_nil)))) (z_cons (z_set (i := 6) sc__law_matched.nd rfl (by first | exact .inl rfl | exact .inr rfl) (e_lst a_nil)) (z_cons (z_set (i := 7) sc__law_matched.nd rfl (by first | exact .inl rfl | exact .inr rfl) (e_lst a_nil)) (z_cons (z_for (passes_of rfl) rfl (i_r1 (by rfl) T.z_range (a_cons (e_op op_addD s_add e_int (e_callM (ok__law_draw T) tk (hr.mono (by decide)) (by rfl) T.g__law_draw T.F__law_draw.kp T.b__law_draw (a_cons (e_var (pv 0)) (a_cons e_int a_nil)))) a_nil)) (g_name (vs := [8]) sc__law_matched.nd rfl (by first | exact .inl rfl | exact .inr rfl) (by decide)) (z_cons (z_set (i := 9) sc__law_matched.nd rfl (by first | exact .inl rfl | exact .inr rfl) (e_op op_addD s_add e_int (e_callM (ok__law_draw T) tk (hr.mono (by decide)) (by rfl) T.g__law_draw T.F__law_draw.kp T.b__law_draw (a_cons (e_var (pv 0)) (a_cons e_int a_nil))))) (z_cons (z_set (i := 10) sc__law_matched.nd rfl (by first | exact .inl rfl | exact .inr rfl) (e_op op_addD s_add e_int (e_callM (ok__law_draw T) tk (hr.mono (by decide)) (by rfl) T.g__law_draw T.F__law_draw.kp T.b__law_draw (a_cons (e_var (pv 0)) (a_cons e_int a_nil))))) (z_cons (z_set (i := 11) sc__law_matched.nd rfl (by first | exact .inl rfl | exact .inr rfl) (e_and (e_cmp (op_eqD hr.units) s_eq (e_callM (ok__law_draw T) tk (hr.mono (by decide)) (by rfl) T.g__law_draw T.F__law_draw.kp T.b__law_draw (a_cons (e_var (pv 0)) (a_cons e_int a_nil))) e_int (nomark _)) (e_and (e_cmp (op_eqD hr.units) s_eq (e_op op_mod s_mod (e_var (pv 9)) (e_var (pv 10))) e_int (nomark _)) (e_and (e_cmp (op_gtD hr.units) s_gt (e_var (pv 9)) (e_var (pv 10)) (nomark _)) (e_one (e_cmp (op_notInD hr.units) s_notIn (e_var (pv 9)) (e_var (pv 7)) (by rfl))))))) (z_stp (z_cons (z_setComp (j := 12) (hyl := rfl) (hy := rfl) (hsw := sw_true rfl rfl rfl (by decide +kernel)) (own := [("_law_k", 4)]) rfl sc__law_matched.nd (i_r1 (by rfl) T.z_range (a_cons (e_var (pv 2)) a_nil)) (@blkOk_by ["_law_state", "_law_top", "_law_many", "_law_ones", "_law_k", "_law_others", "_law_lefts", "_law_rights", "_law_lane_here", "_law_left", "_law_right", "_law_split", "_law_levels", "_law_mine", "_law_theirs", "_law_heap_here", "_law_more"] (defScope s__law_matched) _ _ (by decide +kernel)) (fun _ _ _ _ _ => (g_name (vs := ([("_law_k", 4)] : List (Str × Nat)).map (·.2)) sc__law_matched.nd rfl (by first | exact .inl rfl | exact .inr rfl) (by decide))) (fun _ _ _ _ _ => ts_nil) (fun _ _ _ _ _ => (e_callM (ok__law_draw T) takes0 (hr.mono (by decide)) (by rfl) T.g__law_draw T.F__law_draw.kp T.b__law_draw (a_cons (e_var (pv 0)) (a_cons e_int a_nil))))) (z_one (z_if (pt_of_pw (t_and (t_cmp (op_notInD hr.units) s_notIn (e_var (pv 9)) (e_var (pv 6)) (by rfl)) (t_and1 (t_cmp (op_notInD hr.units) s_notIn (e_var (pv 10)) (e_var (pv 7)) (by rfl))))) (z_cons (z_expr (e_mu PySem.F.slot_list_append PySem.F.type_list_append mt_append s_app (e_var (pv 6)) (a_cons (e_frz (e_var (pv 9))) a_nil))) (z_cons (z_expr (e_mu PySem.F.slot_list_append PySem.F.type_list_append mt_append s_app (e_var (pv 7)) (a_cons (e_frz (e_var (pv 10))) a_nil))) (z_cons (z_if (t_tru (e_var (pv 11))) (z_one (z_expr (e_mu PySem.F.slot_list_append PySem.F.type_list_append mt_append s_app (e_var (pv 7)) (a_cons (e_frz (e_var (pv 9))) a_nil)))) z_nil) (z_stp (z_cons (z_asgT (vs := [13, 14]) (e_frz (e_call (ok__law_lane T) tk (hr.mono (by decide)) (by rfl) T.g__law_lane T.F__law_lane.kp T.b__law_lane (a_cons (e_frz (e_var (pv 9))) (a_cons (e_frz (e_var (pv 10))) (a_cons (e_frz (e_var (pv 11))) (a_cons (e_frz (e_var (pv 12))) a_nil)))))) (g_strong (g_tup rfl (g_cons (g_name (vs := [13, 14]) sc__law_matched.nd rfl (by first | exact .inl rfl | exact .inr rfl) (by decide)) (g_cons (g_name (vs := [13, 14]) sc__law_matched.nd rfl (by first | exact .inl rfl | exact .inr rfl) (by decide)) g_nil)) rfl))) (z_cons (z_setComp (j := 3) (hyl := rfl) (hy := rfl) (hsw := sw_true rfl rfl rfl (by decide +kernel)) (own := [("_law_heap_here", 15), ("_law_more", 16)]) rfl sc__law_matched.nd (i_zip (by rfl) T.z_zip (a_cons (e_frz (e_var (pv 3))) (a_cons (e_frz (e_var (pv 13))) a_nil))) (@blkOk_by ["_law_state", "_law_top", "_law_many", "_law_ones", "_law_k", "_law_others", "_law_lefts", "_law_rights", "_law_lane_here", "_law_left", "_law_right", "_law_split", "_law_levels", "_law_mine", "_law_theirs", "_law_heap_here", "_law_more"] (defScope s__law_matched) _ _ (by decide +kernel)) (fun _ _ _ _ _ => (g_tup rfl (g_cons (g_name (vs := ([("_law_heap_here", 15), ("_law_more", 16)] : List (Str × Nat)).map (·.2)) sc__law_matched.nd rfl (by first | exact .inl rfl | exact .inr rfl) (by decide)) (g_cons (g_name (vs := ([("_law_heap_here", 15), ("_law_more", 16)] : List (Str × Nat)).map (·.2)) sc__law_matched.nd rfl (by first | exact .inl rfl | exact .inr rfl) (by decide)) g_nil)) rfl)) (fun _ _ _ _ _ => ts_nil) (fun _ _ _ _ _ => (e_frz (e_op op_addD s_add (e_var (pv 15)) (e_var (pv 16)))))) (z_one (z_setComp (j := 5) (hyl := rfl) (hy := rfl) (hsw := sw_true rfl rfl rfl (by decide +kernel)) (own := [("_law_heap_here", 15), ("_law_more", 16)]) rfl sc__law_matched.nd (i_zip (by rfl) T.z_zip (a_cons (e_frz (e_var (pv 5))) (a_cons (e_frz (e_var (pv 14))) a_nil))) (@blkOk_by ["_law_state", "_law_top", "_law_many", "_law_ones", "_law_k", "_law_others", "_law_lefts", "_law_rights", "_law_lane_here", "_law_left", "_law_right", "_law_split", "_law_levels", "_law_mine", "_law_theirs", "_law_heap_here", "_law_more"] (defScope s__law_matched) _ _ (by decide +kernel)) (fun _ _ _ _ _ => (g_tup rfl (g_cons (g_name (vs := ([("_law_heap_here", 15), ("_law_more", 16)] : List (Str × Nat)).map (·.2)) sc__law_matched.nd rfl (by first | exact .inl rfl | exact .inr rfl) (by decide)) (g_cons (g_name (vs := ([("_law_heap_here", 15), ("_law_more", 16)] : List (Str × Nat)).map (·.2)) sc__law_matched.nd rfl (by first | exact .inl rfl | exact .inr rfl) (by decide)) g_nil)) rfl)) (fun _ _ _ _ _ => ts_nil) (fun _ _ _ _ _ => (e_frz (e_op op_addD s_add (e_var (pv 15)) (e_var (pv 16))))))))))))) z_nil)))))))) (z_stp (z_cons (z_if (t_cmp (op_eqD hr.units) s_eq (e_callM (ok__law_draw T) tk (hr.mono (by decide)) (by rfl) T.g__law_draw T.F__law_draw.kp T.b__law_draw (a_cons (e_var (pv 0)) (a_cons e_int a_nil))) e_int (nomark _)) (z_one (z_par2 (i := 3) (j := 5) rfl sc__law_matched.nd rfl rfl (by decide) rfl rfl (a_cons (e_frz (e_var (pv 5))) (a_cons (e_frz (e_var (pv 3))) a_nil)) (by with_unfolding_all rfl))) z_nil) (z_stp (z_one (z_ret (e_tup (a_cons (e_frz (e_call (ok__law_rule T) tk (hr.mono (by decide)) (by rfl) T.g__law_rule T.F__law_rule.kp T.b__law_rule (a_cons (e_frz (e_var (pv 3))) a_nil))) (a_cons (e_frz (e_call (ok__law_rule T) tk (hr.mono (by decide)) (by rfl) T.g__law_rule T.F__law_rule.kp T.b__law_rule (a_cons (e_frz (e_var (pv 5))) a_nil))) a_nil))))))))))))))
theorem ok__law_matched (T : Txt K mg) : FnOk P w K mg base (L2.CX P w) 3 T.f__law_matched T.d__law_matched ["_law_state", "_law_top"] (spOf ⟨K, mg, noG⟩ sp__law_matched) := fn_dt T.F__law_matched sc__law_matched (by intro os PP PX h; unfold sp__law_matched at h; first | exact h.elim | (split at h <;> first | rfl | exact h.elim)) (fun cdv A outer s H E hr => dd__law_matched T cdv A outer s H E hr) pf__law_matched
theorem dd__law_raw_rule (T : Txt K mg) (cdv : Value) (A : Around) (outer : List Env) (s : Shared) (H : Hp) (E : XK) (hr : Room 3 (A.deeper (envOfC "_law_raw_rule" (defScope s__law_raw_rule) s.heap.objs.size T.f__law_raw_rule cdv))) : PSsd (cxOf (L2.CX P w) P w K mg base ["_law_state", "_law_many", "_law_size", "_law_top", "_law_k"] "_law_raw_rule" (defScope s__law_raw_rule) T.f__law_raw_rule cdv A outer s H E) noG (fun cls d _ H => E cls d H) (defBody s__law_raw_rule) b__law_raw_rule :=
  have tk : Takes (cxOf (L2.CX P w) P w K mg base ["_law_state", "_law_many", "_law_size", "_law_top", "_law_k"] "_law_raw_rule" (defScope s__law_raw_rule) T.f__law_raw_rule cdv A outer s H E) (fun cls d _ H => E cls d H) := takes_of rfl rfl rfl rfl
  (z_one (z_ret (e_cty call_tupleF s_tuple (by rfl) T.z_tuple (by decide +kernel) (a_cons (e_comp (own := [("_law_k", 4)]) rfl sc__law_raw_rule.nd (i_r1 (by rfl) T.z_range (a_cons (e_var (pv 1)) a_nil)) (@blkOk_by ["_law_state", "_law_many", "_law_size", "_law_top", "_law_k"] (defScope s__law_raw_rule) _ _ (by decide +kernel)) (fun _ _ _ _ _ => (g_name (vs := ([("_law_k", 4)] : List (Str × Nat)).map (·.2)) sc__law_raw_rule.nd rfl (by first | exact .inl rfl | exact .inr rfl) (by decide))) (fun _ _ _ _ _ => ts_nil) (fun _ _ _ _ _ => (e_frz (e_callM (ok__law_heap T) takes0 (hr.mono (by decide)) (by rfl) T.g__law_heap T.F__law_heap.kp T.b__law_heap (a_cons (e_var (pv 0)) (a_cons (e_frz (e_var (pv 2))) (a_cons (e_frz (e_var (pv 3))) a_nil))))))) a_nil))))
theorem ok__law_raw_rule (T : Txt K mg) : FnOk P w K mg base (L2.CX P w) 4 T.f__law_raw_rule T.d__law_raw_rule ["_law_state", "_law_many", "_law_size", "_law_top"] (spOf ⟨K, mg, noG⟩ sp__law_raw_rule) := fn_dt T.F__law_raw_rule sc__law_raw_rule (by intro os PP PX h; unfold sp__law_raw_rule at h; first | exact h.elim | (split at h <;> first | rfl | exact h.elim)) (fun cdv A outer s H E hr => dd__law_raw_rule T cdv A outer s H E hr) pf__law_raw_rule
theorem dd__law_two (T : Txt K mg) (cdv : Value) (A : Around) (outer : List Env) (s : Shared) (H : Hp) (E : XK) (hr : Room 4 (A.deeper (envOfC "_law_two" (defScope s__law_two) s.heap.objs.size T.f__law_two cdv))) : PSsd (cxOf (L2.CX P w) P w K mg base ["_law_state", "_law_many", "_law_one"] "_law_two" (defScope s__law_two) T.f__law_two cdv A outer s H E) noG (fun cls d _ H => E cls d H) (defBody s__law_two) b__law_two :=
  have tk : Takes (cxOf (L2.CX P w) P w K mg base ["_law_state", "_law_many", "_law_one"] "_law_two" (defScope s__law_two) T.f__law_two cdv A outer s H E) (fun cls d _ H => E cls d H) := takes_of rfl rfl rfl rfl
  (z_cons (z_if (t_cmp (op_gtD hr.units) s_gt (e_callM (ok__law_draw T) tk (hr.mono (by decide)) (by rfl) T.g__law_draw T.F__law_draw.kp T.b__law_draw (a_cons (e_var (pv 0)) (a_cons e_int a_nil))) e_int (nomark _)) (z_one (z_ret (e_callM (ok__law_matched T) tk (hr.mono (by decide)) (by rfl) T.g__law_matched T.F__law_matched.kp T.b__law_matched (a_cons (e_var (pv 0)) (a_cons e_int a_nil))))) z_nil) (z_cons (z_set (i := 1) sc__law_two.nd rfl (by first | exact .inl rfl | exact .inr rfl) (e_callM (ok__law_draw T) tk (hr.mono (by decide)) (by rfl) T.g__law_draw T.F__law_draw.kp T.b__law_draw (a_cons (e_var (pv 0)) (a_cons e_int a_nil)))) (z_cons (z_set (i := 2) sc__law_two.nd rfl (by first | exact .inl rfl | exact .inr rfl) (e_callM (ok__law_raw_rule T) tk (hr.mono (by decide)) (by rfl) T.g__law_raw_rule T.F__law_raw_rule.kp T.b__law_raw_rule (a_cons (e_var (pv 0)) (a_cons (e_frz (e_var (pv 1))) (a_cons e_int (a_cons e_int a_nil)))))) (z_stp (z_cons (z_if (t_cmp (op_eqD hr.units) s_eq (e_callM (ok__law_draw T) tk (hr.mono (by decide)) (by rfl) T.g__law_draw T.F__law_draw.kp T.b__law_draw (a_cons (e_var (pv 0)) (a_cons e_int a_nil))) e_int (nomark _)) (z_one (z_ret (e_tup (a_cons (e_frz (e_var (pv 2))) (a_cons (e_frz (e_var (pv 2))) a_nil))))) z_nil) (z_stp (z_one (z_ret (e_tup (a_cons (e_frz (e_var (pv 2))) (a_cons (e_frz (e_callM (ok__law_raw_rule T) tk (hr.mono (by decide)) (by rfl) T.g__law_raw_rule T.F__law_raw_rule.kp T.b__law_raw_rule (a_cons (e_var (pv 0)) (a_cons (e_frz (e_var (pv 1))) (a_cons e_int (a_cons e_int a_nil)))))) a_nil)))))))))))
theorem ok__law_two (T : Txt K mg) : FnOk P w K mg base (L2.CX P w) 5 T.f__law_two T.d__law_two ["_law_state"] (spOf ⟨K, mg, noG⟩ sp__law_two) := fn_dt T.F__law_two sc__law_two (by intro os PP PX h; unfold sp__law_two at h; first | exact h.elim | (split at h <;> first | rfl | exact h.elim)) (fun cdv A outer s H E hr => dd__law_two T cdv A outer s H E hr) pf__law_two
theorem dd__law_walk (T : Txt K mg) (cdv : Value) (A : Around) (outer : List Env) (s : Shared) (H : Hp) (E : XK) (hr : Room 3 (A.deeper (envOfC "_law_walk" (defScope s__law_walk) s.heap.objs.size T.f__law_walk cdv))) : PSsd (cxOf (L2.CX P w) P w K mg base ["_law_rules", "_law_heap_here", "_law_limit", "_law_rows", "_law_further"] "_law_walk" (defScope s__law_walk) T.f__law_walk cdv A outer s H E) noG (fun cls d _ H => E cls d H) (defBody s__law_walk) b__law_walk :=
  have tk : Takes (cxOf (L2.CX P w) P w K mg base ["_law_rules", "_law_heap_here", "_law_limit", "_law_rows", "_law_further"] "_law_walk" (defScope s__law_walk) T.f__law_walk cdv A outer s H E) (fun cls d _ H => E cls d H) := takes_of rfl rfl rfl rfl
  (z_cons (z_set (i := 3) sc__law_walk.nd rfl (by first | exact .inl rfl | exact .inr rfl) (e_lst (a_cons (e_tup (a_cons e_int (a_cons (e_frz (e_var (pv 1))) (a_cons (e_tup a_nil) a_nil)))) a_nil))) (z_cons (z_while (passes_of rfl) (t_cmp op_le s_le (e_cb call_len s_len (by rfl) T.z_len (by decide +kernel) (a_cons (e_var (pv 3)) a_nil)) (e_var (pv 2)) (nomark _)) (z_one (z_if (t_cmp (op_eqD hr.units) s_eq (e_op op_mod s_mod (e_cb call_len s_len (by rfl) T.z_len (by decide +kernel) (a_cons (e_var (pv 3)) a_nil)) e_int) e_int (nomark _)) (z_one (z_expr (e_mu PySem.F.slot_list_append PySem.F.type_list_append mt_append s_app (e_var (pv 3)) (a_cons (e_frz (e_call (ok__law_crossed T) tk (hr.mono (by decide)) (by rfl) T.g__law_crossed T.F__law_crossed.kp T.b__law_crossed (a_cons (e_frz (e_var (pv 0))) (a_cons (e_frz (e_ix (e_var (pv 3)) (e_un un_neg s_neg e_int))) a_nil)))) a_nil)))) (z_cons (z_set (i := 4) sc__law_walk.nd rfl (by first | exact .inl rfl | exact .inr rfl) (e_call (ok__law_toggled T) tk (hr.mono (by decide)) (by rfl) T.g__law_toggled T.F__law_toggled.kp T.b__law_toggled (a_cons (e_frz (e_var (pv 0))) (a_cons (e_frz (e_ix (e_var (pv 3)) (e_un un_neg s_neg e_int))) a_nil)))) (z_cons (z_if (t_cmp op_isD s_is (e_var (pv 4)) e_non (nomark _)) (z_one (z_ret (e_var (pv 3)))) z_nil) (z_stp (z_one (z_expr (e_mu PySem.F.slot_list_append PySem.F.type_list_append mt_append s_app (e_var (pv 3)) (a_cons (e_frz (e_var (pv 4))) a_nil)))))))))) (z_stp (z_one (z_ret (e_var (pv 3)))))))
theorem ok__law_walk (T : Txt K mg) : FnOk P w K mg base (L2.CX P w) 4 T.f__law_walk T.d__law_walk ["_law_rules", "_law_heap_here", "_law_limit"] (spOf ⟨K, mg, noG⟩ sp__law_walk) := fn_dt T.F__law_walk sc__law_walk (by intro os PP PX h; unfold sp__law_walk at h; first | exact h.elim | (split at h <;> first | rfl | exact h.elim)) (fun cdv A outer s H E hr => dd__law_walk T cdv A outer s H E hr) pf__law_walk
theorem dd_is_walk (T : Txt K mg) (cdv : Value) (A : Around) (outer : List Env) (s : Shared) (H : Hp) (E : XK) (hr : Room 6 (A.deeper (envOfC "is_walk" (defScope s_is_walk) s.heap.objs.size T.f_is_walk cdv))) : PSsd (cxOf (L2.CX P w) P w K mg base ["sided", "rows", "place", "at", "row"] "is_walk" (defScope s_is_walk) T.f_is_walk cdv A outer s H E) noG (fun cls d _ H => E cls d H) (defBody s_is_walk) b_is_walk :=
  have tk : Takes (cxOf (L2.CX P w) P w K mg base ["sided", "rows", "place", "at", "row"] "is_walk" (defScope s_is_walk) T.f_is_walk cdv A outer s H E) (fun cls d _ H => E cls d H) := takes_of rfl rfl rfl rfl
  (z_cons (z_if (pt_of_pw (t_or (t_not (t_tru (e_var (pv 1)))) (t_or1 (t_not (t_tru (e_call (ok_keeps T) tk (hr.mono (by decide)) (by rfl) T.g_keeps T.F_keeps.kp T.b_keeps (a_cons (e_frz (e_ix (e_meth0 T.bes T.m_Beside_rules (by decide) (by decide) (ok_Beside_rules T) tk (hr.mono (by decide)) T.b_Beside_rules (e_var (pv 0))) e_int)) (a_cons (e_frz (e_ix (e_ix (e_var (pv 1)) e_int) e_int)) a_nil)))))))) (z_one (z_ret e_bl)) z_nil) (z_stp (z_cons (z_set (i := 2) sc_is_walk.nd rfl (by first | exact .inl rfl | exact .inr rfl) (e_tup (a_cons e_int (a_cons (e_frz (e_ix (e_ix (e_var (pv 1)) e_int) e_int)) (a_cons (e_tup a_nil) a_nil))))) (z_stp (z_cons (z_for (passes_of rfl) rfl (i_enum1 (by rfl) T.z_enumerate (a_cons (e_frz (e_var (pv 1))) a_nil)) (g_tup rfl (g_cons (g_name (vs := [3, 4]) sc_is_walk.nd rfl (by first | exact .inl rfl | exact .inr rfl) (by decide)) (g_cons (g_name (vs := [3, 4]) sc_is_walk.nd rfl (by first | exact .inl rfl | exact .inr rfl) (by decide)) g_nil)) rfl) (z_cons (z_if (t_cmp (op_neD hr.units) s_ne (e_var (pv 4)) (e_var (pv 2)) (nomark _)) (z_one (z_ret e_bl)) z_nil) (z_stp (z_cons (z_set (i := 2) sc_is_walk.nd rfl (by first | exact .inl rfl | exact .inr rfl) (e_call (ok_next_place T) tk (hr.mono (by decide)) (by rfl) T.g_next_place T.F_next_place.kp T.b_next_place (a_cons (e_frz (e_var (pv 0))) (a_cons (e_frz (e_var (pv 2))) (a_cons (e_cmp (op_eqD hr.units) s_eq (e_op op_mod s_mod (e_var (pv 3)) e_int) e_int (nomark _)) a_nil))))) (z_stp (z_one (z_if (t_cmp op_isD s_is (e_var (pv 2)) e_non (nomark _)) (z_one (z_ret (e_cmp (op_eqD hr.units) s_eq (e_var (pv 3)) (e_cb call_len s_len (by rfl) T.z_len (by decide +kernel) (a_cons (e_var (pv 1)) a_nil)) (nomark _)))) z_nil))))))) (z_stp (z_one (z_ret e_bl))))))))
theorem ok_is_walk (T : Txt K mg) : FnOk P w K mg base (L2.CX P w) 7 T.f_is_walk T.d_is_walk ["sided", "rows"] (spOf ⟨K, mg, noG⟩ sp_is_walk) := fn_dt T.F_is_walk sc_is_walk (by intro os PP PX h; unfold sp_is_walk at h; first | exact h.elim | (split at h <;> first | rfl | exact h.elim)) (fun cdv A outer s H E hr => dd_is_walk T cdv A outer s H E hr) pf_is_walk
theorem dd_law (T : Txt K mg) (cdv : Value) (A : Around) (outer : List Env) (s : Shared) (H : Hp) (E : XK) (hr : Room 26 (A.deeper (envOfC "law" (defScope s_law) s.heap.objs.size T.f_law cdv))) : PSsd (cxOf (L2.CX P w) P w K mg base ["_law_script", "_law_state", "_law_rules", "_law_sided", "_law_n", "_law_heaps", "_law_heap_here", "_law_told_here", "_law_number", "_law_about", "_law_side", "_law_one", "_law_choice"] "law" (defScope s_law) T.f_law cdv A outer s H E) noG (fun cls d _ H => E cls d H) (defBody s_law).tail b_law :=
  have tk : Takes (cxOf (L2.CX P w) P w K mg base ["_law_script", "_law_state", "_law_rules", "_law_sided", "_law_n", "_law_heaps", "_law_heap_here", "_law_told_here", "_law_number", "_law_about", "_law_side", "_law_one", "_law_choice"] "law" (defScope s_law) T.f_law cdv A outer s H E) (fun cls d _ H => E cls d H) := takes_of rfl rfl rfl rfl
  (z_cons (z_set (i := 2) sc_law.nd rfl (by first | exact .inl rfl | exact .inr rfl) (e_callM (ok__law_two T) tk (hr.mono (by decide)) (by rfl) T.g__law_two T.F__law_two.kp T.b__law_two (a_cons (e_var (pv 1)) a_nil))) (z_cons (z_set (i := 3) sc_law.nd rfl (by first | exact .inl rfl | exact .inr rfl) (e_call (ok__law_held T) tk (hr.mono (by decide)) (by rfl) T.g__law_held T.F__law_held.kp T.b__law_held (a_cons (e_frz (e_ix (e_var (pv 2)) e_int)) (a_cons (e_frz (e_ix (e_var (pv 2)) e_int)) a_nil)))) (z_cons (z_if (pt_of_pw (t_or (t_cmp op_isD s_is (e_var (pv 3)) e_non (nomark _)) (t_or1 (t_not (t_tru (e_call (ok__law_match T) tk (hr.mono (by decide)) (by rfl) T.g__law_match T.F__law_match.kp T.b__law_match (a_cons (e_frz (e_ix (e_var (pv 2)) e_int)) (a_cons (e_frz (e_ix (e_var (pv 2)) e_int)) a_nil)))))))) (z_one (z_ret (e_and (e_cmp op_isD s_is (e_var (pv 3)) e_non (nomark _)) (e_one (e_not (e_call (ok__law_match T) tk (hr.mono (by decide)) (by rfl) T.g__law_match T.F__law_match.kp T.b__law_match (a_cons (e_frz (e_ix (e_var (pv 2)) e_int)) (a_cons (e_frz (e_ix (e_var (pv 2)) e_int)) a_nil)))))))) z_nil) (z_stp (z_cons (z_set (i := 4) sc_law.nd rfl (by first | exact .inl rfl | exact .inr rfl) (e_callM (ok__law_draw T) tk (hr.mono (by decide)) (by rfl) T.g__law_draw T.F__law_draw.kp T.b__law_draw (a_cons (e_var (pv 1)) (a_cons e_int a_nil)))) (z_cons (z_set (i := 5) sc_law.nd rfl (by first | exact .inl rfl | exact .inr rfl) (e_call (ok__law_partings T 26) tk (hr.mono (by decide)) (by rfl) T.g__law_partings T.F__law_partings.kp T.b__law_partings (a_cons (e_frz (e_var (pv 4))) (a_cons (e_frz (e_var (pv 4))) a_nil)))) (z_cons (z_set (i := 6) sc_law.nd rfl (by first | exact .inl rfl | exact .inr rfl) (e_ix (e_var (pv 5)) (e_callM (ok__law_draw T) tk (hr.mono (by decide)) (by rfl) T.g__law_draw T.F__law_draw.kp T.b__law_draw (a_cons (e_var (pv 1)) (a_cons (e_cb call_len s_len (by rfl) T.z_len (by decide +kernel) (a_cons (e_var (pv 5)) a_nil)) a_nil))))) (z_cons (z_if (t_cmp (op_eqD hr.units) s_eq (e_callM (ok__law_draw T) tk (hr.mono (by decide)) (by rfl) T.g__law_draw T.F__law_draw.kp T.b__law_draw (a_cons (e_var (pv 1)) (a_cons e_int a_nil))) e_int (nomark _)) (z_one (z_set (i := 6) sc_law.nd rfl (by first | exact .inl rfl | exact .inr rfl) (e_callM (ok__law_heap T) tk (hr.mono (by decide)) (by rfl) T.g__law_heap T.F__law_heap.kp T.b__law_heap (a_cons (e_var (pv 1)) (a_cons e_int (a_cons e_int a_nil)))))) z_nil) (z_stp (z_cons (z_set (i := 7) sc_law.nd rfl (by first | exact .inl rfl | exact .inr rfl) (e_call (ok__law_told T) tk (hr.mono (by decide)) (by rfl) T.g__law_told T.F__law_told.kp T.b__law_told (a_cons (e_frz (e_var (pv 3))) (a_cons (e_frz (e_var (pv 6))) a_nil)))) (z_stp (z_cons (z_set (i := 8) sc_law.nd rfl (by first | exact .inl rfl | exact .inr rfl) (e_call (ok__law_first T) tk (hr.mono (by decide)) (by rfl) T.g__law_first T.F__law_first.kp T.b__law_first (a_cons (e_frz (e_ix (e_var (pv 2)) e_int)) (a_cons (e_frz (e_var (pv 6))) a_nil)))) (z_cons (z_if (t_cmp op_isNotD s_isNot (e_var (pv 8)) e_non (nomark _)) (z_one (z_ret (e_call (ok__law_same T 6) tk (hr.mono (by decide)) (by rfl) T.g__law_same T.F__law_same.kp T.b__law_same (a_cons (e_frz (e_var (pv 7))) (a_cons (e_tup (a_cons (e_frz (e_var (pv 8))) (a_cons e_int a_nil))) a_nil))))) z_nil) (z_stp (z_cons (z_if (t_tru (e_isi (T := "tuple") rfl (by unfold okT; decide +kernel) (by rfl) T.z_isinstance (by rfl) T.z_tuple (by decide +kernel) (e_var (pv 7)))) (z_one (z_ret (e_call (ok__law_same T 6) tk (hr.mono (by decide)) (by rfl) T.g__law_same T.F__law_same.kp T.b__law_same (a_cons (e_frz (e_var (pv 7))) (a_cons (e_tup (a_cons (e_frz (e_ix (e_call (ok__law_walk T) tk (hr.mono (by decide)) (by rfl) T.g__law_walk T.F__law_walk.kp T.b__law_walk (a_cons (e_frz (e_var (pv 2))) (a_cons (e_frz (e_var (pv 6))) (a_cons e_int a_nil)))) e_int)) (a_cons e_int a_nil))) a_nil))))) z_nil) (z_stp (z_cons (z_if (pt_of_pw (t_or (t_not (t_tru (e_isi (T := "list") rfl (by unfold okT; decide +kernel) (by rfl) T.z_isinstance (by rfl) T.z_list (by decide +kernel) (e_var (pv 7))))) (t_or (t_cmp (op_ltD hr.units) s_lt (e_cb call_len s_len (by rfl) T.z_len (by decide +kernel) (a_cons (e_var (pv 7)) a_nil)) e_int (nomark _)) (t_or1 (t_not (t_tru (e_call (ok__law_same T 6) tk (hr.mono (by decide)) (by rfl) T.g__law_same T.F__law_same.kp T.b__law_same (a_cons (e_frz (e_ix (e_var (pv 7)) e_int)) (a_cons (e_tup (a_cons e_int (a_cons (e_frz (e_var (pv 6))) (a_cons (e_tup a_nil) a_nil)))) a_nil))))))))) (z_one (z_ret e_bl)) z_nil) (z_stp (z_cons (z_if (pt_of_pw (t_or (t_not (t_tru (e_call (ok__law_steps_right T) tk (hr.mono (by decide)) (by rfl) T.g__law_steps_right T.F__law_steps_right.kp T.b__law_steps_right (a_cons (e_frz (e_var (pv 2))) (a_cons (e_frz (e_var (pv 7))) a_nil))))) (t_or1 (t_cmp op_isNotD s_isNot (e_call (ok__law_first T) tk (hr.mono (by decide)) (by rfl) T.g__law_first T.F__law_first.kp T.b__law_first (a_cons (e_frz (e_ix (e_var (pv 2)) e_int)) (a_cons (e_frz (e_ix (e_ix (e_var (pv 7)) (e_un un_neg s_neg e_int)) e_int)) a_nil))) e_non (nomark _))))) (z_one (z_ret e_bl)) z_nil) (z_stp (z_cons (z_setComp (j := 9) (hyl := rfl) (hy := rfl) (hsw := sw_true rfl rfl rfl (by decide +kernel)) (own := [("_law_side", 10), ("_law_one", 11), ("_law_choice", 12)]) rfl sc_law.nd (i_seq (e_rev (e_var (pv 7)))) (@blkOk_by ["_law_script", "_law_state", "_law_rules", "_law_sided", "_law_n", "_law_heaps", "_law_heap_here", "_law_told_here", "_law_number", "_law_about", "_law_side", "_law_one", "_law_choice"] (defScope s_law) _ _ (by decide +kernel)) (fun _ _ _ _ _ => (g_strong (g_tup rfl (g_cons (g_name (vs := ([("_law_side", 10), ("_law_one", 11), ("_law_choice", 12)] : List (Str × Nat)).map (·.2)) sc_law.nd rfl (by first | exact .inl rfl | exact .inr rfl) (by decide)) (g_cons (g_name (vs := ([("_law_side", 10), ("_law_one", 11), ("_law_choice", 12)] : List (Str × Nat)).map (·.2)) sc_law.nd rfl (by first | exact .inl rfl | exact .inr rfl) (by decide)) (g_cons (g_name (vs := ([("_law_side", 10), ("_law_one", 11), ("_law_choice", 12)] : List (Str × Nat)).map (·.2)) sc_law.nd rfl (by first | exact .inl rfl | exact .inr rfl) (by decide)) g_nil))) rfl))) (fun _ _ _ _ _ => ts_nil) (fun _ _ _ _ _ => (e_tup (a_cons (e_frz (e_op op_sub s_sub e_int (e_var (pv 10)))) (a_cons (e_frz (e_var (pv 11))) (a_cons (e_frz (e_var (pv 12))) a_nil)))))) (z_stp (z_cons (z_if (t_not (t_tru (e_call (ok__law_same T 6) tk (hr.mono (by decide)) (by rfl) T.g__law_same T.F__law_same.kp T.b__law_same (a_cons (e_frz (e_call (ok__law_told T) tk (hr.mono (by decide)) (by rfl) T.g__law_told T.F__law_told.kp T.b__law_told (a_cons (e_frz (e_meth0 T.bes T.m_Beside_back (by decide) (by decide) (ok_Beside_back T) tk (hr.mono (by decide)) T.b_Beside_back (e_var (pv 3)))) (a_cons (e_frz (e_ix (e_ix (e_var (pv 7)) (e_un un_neg s_neg e_int)) e_int)) a_nil)))) (a_cons (e_frz (e_var (pv 9))) a_nil))))) (z_one (z_ret e_bl)) z_nil) (z_stp (z_one (z_ret (e_and (e_cmp op_isD s_is (e_call (ok_is_walk T) tk (hr.mono (by decide)) (by rfl) T.g_is_walk T.F_is_walk.kp T.b_is_walk (a_cons (e_frz (e_var (pv 3))) (a_cons (e_frz (e_var (pv 7))) a_nil))) e_bl (nomark _)) (e_one (e_cmp op_isD s_is (e_call (ok_is_walk T) tk (hr.mono (by decide)) (by rfl) T.g_is_walk T.F_is_walk.kp T.b_is_walk (a_cons (e_frz (e_meth0 T.bes T.m_Beside_back (by decide) (by decide) (ok_Beside_back T) tk (hr.mono (by decide)) T.b_Beside_back (e_var (pv 3)))) (a_cons (e_frz (e_var (pv 9))) a_nil))) e_bl (nomark _))))))))))))))))))))))))))))))
theorem ok_law (T : Txt K mg) : FnOk P w K mg base (L2.CX P w) 27 T.f_law T.d_law ["_law_script"] (spLaw K) := by
  refine T.F_law.okX sc_law (fun vs H Q E h => ?_) (fun cdv A outer s H vs Q E hr h => ?_)
  · obtain ⟨a, ns, rfl, _⟩ := h
    rfl
  · obtain ⟨a, ns, rfl, hS, hl, q⟩ := h
    have tk : Takes (cxOf (L2.CX P w) P w K mg base ["_law_script", "_law_state", "_law_rules", "_law_sided", "_law_n", "_law_heaps", "_law_heap_here", "_law_told_here", "_law_number", "_law_about", "_law_side", "_law_one", "_law_choice"] "law" (defScope s_law) T.f_law cdv A outer s H E) (fun cls d _ H => E cls d H) := takes_of rfl rfl rfl rfl
    refine ⟨_, pss_cons (ps_set (i := 1) sc_law.nd rfl (by first | exact .inl rfl | exact .inr rfl) (pe_callS (E := WE fun cls d _ H => E cls d H) (ok_start0 T) (hr.mono (by decide)) (by rfl) T.g__law_start T.F__law_start.kp T.b__law_start (fun σ => passAt tk σ) (pa_cons (pv 0) pa_nil))) (dd_law T cdv A outer s H E hr), ?_⟩
    exact ⟨_, rfl, a, ns, rfl, hS, hl, law_cont (n := 13) (by decide) pf_law q rfl⟩
end
theorem txt_of {w : World} {K : PySem.W.Frag} {h : Heap} {mg : Str → Option Value} (X : K.In h) (G : h.Ns mainGlobals mg) (c : SaysW factsL defsL tabsL w K) : Nonempty (Txt K mg) := by
  obtain ⟨d0, F0⟩ := c.fun_ 0 ("chosen", none) "chosen" "chosen" s_chosen rfl
  obtain ⟨d1, F1⟩ := c.fun_ 1 ("choices_of", none) "choices_of" "choices_of" s_choices_of rfl
  obtain ⟨d2, F2⟩ := c.fun_ 2 ("unlike_parts", none) "unlike_parts" "unlike_parts" s_unlike_parts rfl
  obtain ⟨d3, F3⟩ := c.fun_ 3 ("joined", none) "joined" "joined" s_joined rfl
  obtain ⟨d4, F4⟩ := c.fun_ 4 ("joined_of", none) "joined_of" "joined_of" s_joined_of rfl
  obtain ⟨d5, F5⟩ := c.fun_ 5 ("sum_of", none) "sum_of" "sum_of" s_sum_of rfl
  obtain ⟨d6, F6⟩ := c.fun_ 6 ("sums_of", none) "sums_of" "sums_of" s_sums_of rfl
  obtain ⟨d7, F7⟩ := c.fun_ 7 ("first_unlike", none) "first_unlike" "first_unlike" s_first_unlike rfl
  obtain ⟨d8, F8⟩ := c.fun_ 8 ("Beside", some "__init__") "__init__" "Beside.__init__" s_Beside rfl
  obtain ⟨d9, F9⟩ := c.fun_ 9 ("Beside", some "back") "back" "Beside.back" s_Beside_back rfl
  obtain ⟨d10, F10⟩ := c.fun_ 10 ("_law_mix", none) "_law_mix" "_law_mix" s__law_mix rfl
  obtain ⟨d11, F11⟩ := c.fun_ 11 ("_law_draw", none) "_law_draw" "_law_draw" s__law_draw rfl
  obtain ⟨d12, F12⟩ := c.fun_ 12 ("_law_lies", none) "_law_lies" "_law_lies" s__law_lies rfl
  obtain ⟨d13, F13⟩ := c.fun_ 13 ("_law_first", none) "_law_first" "_law_first" s__law_first rfl
  obtain ⟨d14, F14⟩ := c.fun_ 14 ("_law_heap", none) "_law_heap" "_law_heap" s__law_heap rfl
  obtain ⟨d15, F15⟩ := c.fun_ 15 ("_law_held", none) "_law_held" "_law_held" s__law_held rfl
  obtain ⟨d16, F16⟩ := c.fun_ 16 ("_law_choices", none) "_law_choices" "_law_choices" s__law_choices rfl
  obtain ⟨d17, F17⟩ := c.fun_ 17 ("_law_joined", none) "_law_joined" "_law_joined" s__law_joined rfl
  obtain ⟨d18, F18⟩ := c.fun_ 18 ("_law_match", none) "_law_match" "_law_match" s__law_match rfl
  obtain ⟨d19, F19⟩ := c.fun_ 19 ("_law_partings", none) "_law_partings" "_law_partings" s__law_partings rfl
  obtain ⟨d20, F20⟩ := c.fun_ 20 ("_law_same", none) "_law_same" "_law_same" s__law_same rfl
  obtain ⟨d21, F21⟩ := c.fun_ 21 ("_law_start", none) "_law_start" "_law_start" s__law_start rfl
  obtain ⟨d22, F22⟩ := c.fun_ 22 ("_law_less", none) "_law_less" "_law_less" s__law_less rfl
  obtain ⟨d23, F23⟩ := c.fun_ 23 ("_law_put", none) "_law_put" "_law_put" s__law_put rfl
  obtain ⟨d24, F24⟩ := c.fun_ 24 ("_law_crossed", none) "_law_crossed" "_law_crossed" s__law_crossed rfl
  obtain ⟨d25, F25⟩ := c.fun_ 25 ("_law_toggled", none) "_law_toggled" "_law_toggled" s__law_toggled rfl
  obtain ⟨d26, F26⟩ := c.fun_ 26 ("_law_steps_right", none) "_law_steps_right" "_law_steps_right" s__law_steps_right rfl
  obtain ⟨d27, F27⟩ := c.fun_ 27 ("Beside", some "rules") "rules" "Beside.rules" s_Beside_rules rfl
  obtain ⟨d28, F28⟩ := c.fun_ 28 ("lies_in", none) "lies_in" "lies_in" s_lies_in rfl
  obtain ⟨d29, F29⟩ := c.fun_ 29 ("all_in", none) "all_in" "all_in" s_all_in rfl
  obtain ⟨d30, F30⟩ := c.fun_ 30 ("first_in", none) "first_in" "first_in" s_first_in rfl
  obtain ⟨d31, F31⟩ := c.fun_ 31 ("held_keeper", none) "held_keeper" "held_keeper" s_held_keeper rfl
  obtain ⟨d32, F32⟩ := c.fun_ 32 ("is_pair", none) "is_pair" "is_pair" s_is_pair rfl
  obtain ⟨d33, F33⟩ := c.fun_ 33 ("held_pair", none) "held_pair" "held_pair" s_held_pair rfl
  obtain ⟨d34, F34⟩ := c.fun_ 34 ("heap_of", none) "heap_of" "heap_of" s_heap_of rfl
  obtain ⟨d35, F35⟩ := c.fun_ 35 ("put", none) "put" "put" s_put rfl
  obtain ⟨d36, F36⟩ := c.fun_ 36 ("sides_of", none) "sides_of" "sides_of" s_sides_of rfl
  obtain ⟨d37, F37⟩ := c.fun_ 37 ("taken", none) "taken" "taken" s_taken rfl
  obtain ⟨d38, F38⟩ := c.fun_ 38 ("crossed", none) "crossed" "crossed" s_crossed rfl
  obtain ⟨d39, F39⟩ := c.fun_ 39 ("keeps", none) "keeps" "keeps" s_keeps rfl
  obtain ⟨d40, F40⟩ := c.fun_ 40 ("partner_of", none) "partner_of" "partner_of" s_partner_of rfl
  obtain ⟨d41, F41⟩ := c.fun_ 41 ("toggled", none) "toggled" "toggled" s_toggled rfl
  obtain ⟨d42, F42⟩ := c.fun_ 42 ("next_place", none) "next_place" "next_place" s_next_place rfl
  obtain ⟨d43, F43⟩ := c.funD_ 43 ("walk_of", none) "walk_of" "walk_of" s_walk_of 1000 rfl
  obtain ⟨d44, F44⟩ := c.fun_ 44 ("_law_told", none) "_law_told" "_law_told" s__law_told rfl
  obtain ⟨d45, F45⟩ := c.fun_ 45 ("_law_lane", none) "_law_lane" "_law_lane" s__law_lane rfl
  obtain ⟨d46, F46⟩ := c.fun_ 46 ("_law_rule", none) "_law_rule" "_law_rule" s__law_rule rfl
  obtain ⟨d47, F47⟩ := c.fun_ 47 ("_law_matched", none) "_law_matched" "_law_matched" s__law_matched rfl
  obtain ⟨d48, F48⟩ := c.fun_ 48 ("_law_raw_rule", none) "_law_raw_rule" "_law_raw_rule" s__law_raw_rule rfl
  obtain ⟨d49, F49⟩ := c.fun_ 49 ("_law_two", none) "_law_two" "_law_two" s__law_two rfl
  obtain ⟨d50, F50⟩ := c.fun_ 50 ("_law_walk", none) "_law_walk" "_law_walk" s__law_walk rfl
  obtain ⟨d51, F51⟩ := c.fun_ 51 ("is_walk", none) "is_walk" "is_walk" s_is_walk rfl
  obtain ⟨d52, F52⟩ := c.fun_ 52 ("law", none) "law" "law" s_law rfl
  obtain ⟨dI17, FI17⟩ := c.fun_ 53 ("NoHeap", some "__init__") "__init__" "NoHeap.__init__" sI_17 rfl
  obtain ⟨dI18, FI18⟩ := c.fun_ 54 ("NotKept", some "__init__") "__init__" "NotKept.__init__" sI_18 rfl
  obtain ⟨dI19, FI19⟩ := c.fun_ 55 ("Unmatched", some "__init__") "__init__" "Unmatched.__init__" sI_19 rfl
  obtain ⟨dI20, FI20⟩ := c.fun_ 56 ("TooLong", some "__init__") "__init__" "TooLong.__init__" sI_20 rfl
  exact ⟨{ f_chosen := He.fAd K ("chosen", none), d_chosen := d0, F_chosen := F0, b_chosen := F0.binds (ps := ["numbers"]) (fun _ _ _ _ _ _ us hl => match us, hl with | [_], _ => rfl), g_chosen := (glo_at X G (c.fact 0) 0), f_choices_of := He.fAd K ("choices_of", none), d_choices_of := d1, F_choices_of := F1, b_choices_of := F1.binds (ps := ["rule"]) (fun _ _ _ _ _ _ us hl => match us, hl with | [_], _ => rfl), g_choices_of := (glo_at X G (c.fact 0) 1), f_unlike_parts := He.fAd K ("unlike_parts", none), d_unlike_parts := d2, F_unlike_parts := F2, b_unlike_parts := F2.binds (ps := ["heaps"]) (fun _ _ _ _ _ _ us hl => match us, hl with | [_], _ => rfl), g_unlike_parts := (glo_at X G (c.fact 0) 2), f_joined := He.fAd K ("joined", none), d_joined := d3, F_joined := F3, b_joined := F3.binds (ps := ["heaps"]) (fun _ _ _ _ _ _ us hl => match us, hl with | [_], _ => rfl), g_joined := (glo_at X G (c.fact 0) 3), f_joined_of := He.fAd K ("joined_of", none), d_joined_of := d4, F_joined_of := F4, b_joined_of := F4.binds (ps := ["rule", "choice"]) (fun _ _ _ _ _ _ us hl => match us, hl with | [_, _], _ => rfl), g_joined_of := (glo_at X G (c.fact 0) 4), f_sum_of := He.fAd K ("sum_of", none), d_sum_of := d5, F_sum_of := F5, b_sum_of := F5.binds (ps := ["heap"]) (fun _ _ _ _ _ _ us hl => match us, hl with | [_], _ => rfl), g_sum_of := (glo_at X G (c.fact 0) 5), f_sums_of := He.fAd K ("sums_of", none), d_sums_of := d6, F_sums_of := F6, b_sums_of := F6.binds (ps := ["rule"]) (fun _ _ _ _ _ _ us hl => match us, hl with | [_], _ => rfl), g_sums_of := (glo_at X G (c.fact 0) 6), f_first_unlike := He.fAd K ("first_unlike", none), d_first_unlike := d7, F_first_unlike := F7, b_first_unlike := F7.binds (ps := ["one", "other"]) (fun _ _ _ _ _ _ us hl => match us, hl with | [_, _], _ => rfl), g_first_unlike := (glo_at X G (c.fact 0) 7), f_Beside := He.fAd K ("Beside", some "__init__"), d_Beside := d8, F_Beside := F8, b_Beside := F8.binds (ps := ["self", "one", "other"]) (fun _ _ _ _ _ _ us hl => match us, hl with | [_, _, _], _ => rfl), cB := He.ga K "Beside", bes := ⟨(glo_at X G (c.fact 0) 8), He.cls_ok (c.fact 2), noat_at (c.fact 3) 0, noat_at (c.fact 3) 1⟩, mk_Beside := He.mkr_ok (c.fact 4), f_Beside_back := He.fAd K ("Beside", some "back"), d_Beside_back := d9, F_Beside_back := F9, b_Beside_back := F9.binds (ps := ["self"]) (fun _ _ _ _ _ _ us hl => match us, hl with | [_], _ => rfl), m_Beside_back := meth_at (c.fact 5) 0, f__law_mix := He.fAd K ("_law_mix", none), d__law_mix := d10, F__law_mix := F10, b__law_mix := F10.binds (ps := ["_law_state"]) (fun _ _ _ _ _ _ us hl => match us, hl with | [_], _ => rfl), g__law_mix := (glo_at X G (c.fact 0) 9), f__law_draw := He.fAd K ("_law_draw", none), d__law_draw := d11, F__law_draw := F11, b__law_draw := F11.binds (ps := ["_law_state", "_law_many"]) (fun _ _ _ _ _ _ us hl => match us, hl with | [_, _], _ => rfl), g__law_draw := (glo_at X G (c.fact 0) 10), f__law_lies := He.fAd K ("_law_lies", none), d__law_lies := d12, F__law_lies := F12, b__law_lies := F12.binds (ps := ["_law_one", "_law_other"]) (fun _ _ _ _ _ _ us hl => match us, hl with | [_, _], _ => rfl), g__law_lies := (glo_at X G (c.fact 0) 11), f__law_first := He.fAd K ("_law_first", none), d__law_first := d13, F__law_first := F13, b__law_first := F13.binds (ps := ["_law_rule_here", "_law_heap_here"]) (fun _ _ _ _ _ _ us hl => match us, hl with | [_, _], _ => rfl), g__law_first := (glo_at X G (c.fact 0) 12), f__law_heap := He.fAd K ("_law_heap", none), d__law_heap := d14, F__law_heap := F14, b__law_heap := F14.binds (ps := ["_law_state", "_law_size", "_law_top"]) (fun _ _ _ _ _ _ us hl => match us, hl with | [_, _, _], _ => rfl), g__law_heap := (glo_at X G (c.fact 0) 13), f__law_held := He.fAd K ("_law_held", none), d__law_held := d15, F__law_held := F15, b__law_held := F15.binds (ps := ["_law_one", "_law_other"]) (fun _ _ _ _ _ _ us hl => match us, hl with | [_, _], _ => rfl), g__law_held := (glo_at X G (c.fact 0) 14), f__law_choices := He.fAd K ("_law_choices", none), d__law_choices := d16, F__law_choices := F16, b__law_choices := F16.binds (ps := ["_law_many"]) (fun _ _ _ _ _ _ us hl => match us, hl with | [_], _ => rfl), g__law_choices := (glo_at X G (c.fact 0) 15), f__law_joined := He.fAd K ("_law_joined", none), d__law_joined := d17, F__law_joined := F17, b__law_joined := F17.binds (ps := ["_law_heaps"]) (fun _ _ _ _ _ _ us hl => match us, hl with | [_], _ => rfl), g__law_joined := (glo_at X G (c.fact 0) 16), f__law_match := He.fAd K ("_law_match", none), d__law_match := d18, F__law_match := F18, b__law_match := F18.binds (ps := ["_law_one", "_law_other"]) (fun _ _ _ _ _ _ us hl => match us, hl with | [_, _], _ => rfl), g__law_match := (glo_at X G (c.fact 0) 17), f__law_partings := He.fAd K ("_law_partings", none), d__law_partings := d19, F__law_partings := F19, b__law_partings := F19.binds (ps := ["_law_n", "_law_top"]) (fun _ _ _ _ _ _ us hl => match us, hl with | [_, _], _ => rfl), g__law_partings := (glo_at X G (c.fact 0) 18), f__law_same := He.fAd K ("_law_same", none), d__law_same := d20, F__law_same := F20, b__law_same := F20.binds (ps := ["_law_found", "_law_due"]) (fun _ _ _ _ _ _ us hl => match us, hl with | [_, _], _ => rfl), g__law_same := (glo_at X G (c.fact 0) 19), f__law_start := He.fAd K ("_law_start", none), d__law_start := d21, F__law_start := F21, b__law_start := F21.binds (ps := ["_law_script"]) (fun _ _ _ _ _ _ us hl => match us, hl with | [_], _ => rfl), g__law_start := (glo_at X G (c.fact 0) 20), f__law_less := He.fAd K ("_law_less", none), d__law_less := d22, F__law_less := F22, b__law_less := F22.binds (ps := ["_law_heap_here", "_law_out"]) (fun _ _ _ _ _ _ us hl => match us, hl with | [_, _], _ => rfl), g__law_less := (glo_at X G (c.fact 0) 21), f__law_put := He.fAd K ("_law_put", none), d__law_put := d23, F__law_put := F23, b__law_put := F23.binds (ps := ["_law_one", "_law_other"]) (fun _ _ _ _ _ _ us hl => match us, hl with | [_, _], _ => rfl), g__law_put := (glo_at X G (c.fact 0) 22), f__law_crossed := He.fAd K ("_law_crossed", none), d__law_crossed := d24, F__law_crossed := F24, b__law_crossed := F24.binds (ps := ["_law_rules", "_law_place"]) (fun _ _ _ _ _ _ us hl => match us, hl with | [_, _], _ => rfl), g__law_crossed := (glo_at X G (c.fact 0) 23), f__law_toggled := He.fAd K ("_law_toggled", none), d__law_toggled := d25, F__law_toggled := F25, b__law_toggled := F25.binds (ps := ["_law_rules", "_law_place"]) (fun _ _ _ _ _ _ us hl => match us, hl with | [_, _], _ => rfl), g__law_toggled := (glo_at X G (c.fact 0) 24), f__law_steps_right := He.fAd K ("_law_steps_right", none), d__law_steps_right := d26, F__law_steps_right := F26, b__law_steps_right := F26.binds (ps := ["_law_rules", "_law_rows"]) (fun _ _ _ _ _ _ us hl => match us, hl with | [_, _], _ => rfl), g__law_steps_right := (glo_at X G (c.fact 0) 25), f_Beside_rules := He.fAd K ("Beside", some "rules"), d_Beside_rules := d27, F_Beside_rules := F27, b_Beside_rules := F27.binds (ps := ["self"]) (fun _ _ _ _ _ _ us hl => match us, hl with | [_], _ => rfl), m_Beside_rules := meth_at (c.fact 5) 1, f_lies_in := He.fAd K ("lies_in", none), d_lies_in := d28, F_lies_in := F28, b_lies_in := F28.binds (ps := ["one", "other"]) (fun _ _ _ _ _ _ us hl => match us, hl with | [_, _], _ => rfl), g_lies_in := (glo_at X G (c.fact 0) 26), f_all_in := He.fAd K ("all_in", none), d_all_in := d29, F_all_in := F29, b_all_in := F29.binds (ps := ["rule", "heap"]) (fun _ _ _ _ _ _ us hl => match us, hl with | [_, _], _ => rfl), g_all_in := (glo_at X G (c.fact 0) 27), f_first_in := He.fAd K ("first_in", none), d_first_in := d30, F_first_in := F30, b_first_in := F30.binds (ps := ["rule", "heap"]) (fun _ _ _ _ _ _ us hl => match us, hl with | [_, _], _ => rfl), g_first_in := (glo_at X G (c.fact 0) 28), f_held_keeper := He.fAd K ("held_keeper", none), d_held_keeper := d31, F_held_keeper := F31, b_held_keeper := F31.binds (ps := ["sided", "heap"]) (fun _ _ _ _ _ _ us hl => match us, hl with | [_, _], _ => rfl), g_held_keeper := (glo_at X G (c.fact 0) 29), f_is_pair := He.fAd K ("is_pair", none), d_is_pair := d32, F_is_pair := F32, b_is_pair := F32.binds (ps := ["rule", "heap", "choice"]) (fun _ _ _ _ _ _ us hl => match us, hl with | [_, _, _], _ => rfl), g_is_pair := (glo_at X G (c.fact 0) 30), f_held_pair := He.fAd K ("held_pair", none), d_held_pair := d33, F_held_pair := F33, b_held_pair := F33.binds (ps := ["rule", "pair"]) (fun _ _ _ _ _ _ us hl => match us, hl with | [_, _], _ => rfl), g_held_pair := (glo_at X G (c.fact 0) 31), f_heap_of := He.fAd K ("heap_of", none), d_heap_of := d34, F_heap_of := F34, b_heap_of := F34.binds (ps := ["parts"]) (fun _ _ _ _ _ _ us hl => match us, hl with | [_], _ => rfl), g_heap_of := (glo_at X G (c.fact 0) 32), f_put := He.fAd K ("put", none), d_put := d35, F_put := F35, b_put := F35.binds (ps := ["one", "other"]) (fun _ _ _ _ _ _ us hl => match us, hl with | [_, _], _ => rfl), g_put := (glo_at X G (c.fact 0) 33), f_sides_of := He.fAd K ("sides_of", none), d_sides_of := d36, F_sides_of := F36, b_sides_of := F36.binds (ps := ["sided", "side"]) (fun _ _ _ _ _ _ us hl => match us, hl with | [_, _], _ => rfl), g_sides_of := (glo_at X G (c.fact 0) 34), f_taken := He.fAd K ("taken", none), d_taken := d37, F_taken := F37, b_taken := F37.binds (ps := ["one", "other"]) (fun _ _ _ _ _ _ us hl => match us, hl with | [_, _], _ => rfl), g_taken := (glo_at X G (c.fact 0) 35), f_crossed := He.fAd K ("crossed", none), d_crossed := d38, F_crossed := F38, b_crossed := F38.binds (ps := ["sided", "place"]) (fun _ _ _ _ _ _ us hl => match us, hl with | [_, _], _ => rfl), g_crossed := (glo_at X G (c.fact 0) 36), f_keeps := He.fAd K ("keeps", none), d_keeps := d39, F_keeps := F39, b_keeps := F39.binds (ps := ["rule", "heap"]) (fun _ _ _ _ _ _ us hl => match us, hl with | [_, _], _ => rfl), g_keeps := (glo_at X G (c.fact 0) 37), f_partner_of := He.fAd K ("partner_of", none), d_partner_of := d40, F_partner_of := F40, b_partner_of := F40.binds (ps := ["rule", "pair"]) (fun _ _ _ _ _ _ us hl => match us, hl with | [_, _], _ => rfl), g_partner_of := (glo_at X G (c.fact 0) 38), f_toggled := He.fAd K ("toggled", none), d_toggled := d41, F_toggled := F41, b_toggled := F41.binds (ps := ["sided", "place"]) (fun _ _ _ _ _ _ us hl => match us, hl with | [_, _], _ => rfl), g_toggled := (glo_at X G (c.fact 0) 39), f_next_place := He.fAd K ("next_place", none), d_next_place := d42, F_next_place := F42, b_next_place := F42.binds (ps := ["sided", "place", "toggle"]) (fun _ _ _ _ _ _ us hl => match us, hl with | [_, _, _], _ => rfl), g_next_place := (glo_at X G (c.fact 0) 40), f_walk_of := He.fAd K ("walk_of", none), d_walk_of := d43, F_walk_of := F43, b_walk_of := bind_all F43 (fun _ _ _ _ _ _ _ us its h1 h2 => match us, h1, its, h2 with | [_, _, _], _, [_], _ => ⟨_, rfl, rfl⟩), bd_walk_of := F43.binds1 (ps := ["sided", "heap", "most"]) 2 0 (by simp) rfl (fun _ _ _ _ _ _ _ us its h1 h2 => match us, h1, its, h2 with | [_, _], _, [_], _ => ⟨_, rfl, rfl⟩), kb_walk_of := kbn_of F43 (fun _ _ _ _ _ _ _ us ws its h1 h2 h3 => match us, h1, ws, h2, its, h3 with | [_, _], _, [_], _, [_], _ => ⟨_, rfl, rfl⟩), g_walk_of := (glo_at X G (c.fact 0) 41), f__law_told := He.fAd K ("_law_told", none), d__law_told := d44, F__law_told := F44, b__law_told := F44.binds (ps := ["_law_sided", "_law_heap_here"]) (fun _ _ _ _ _ _ us hl => match us, hl with | [_, _], _ => rfl), g__law_told := (glo_at X G (c.fact 0) 42), f__law_lane := He.fAd K ("_law_lane", none), d__law_lane := d45, F__law_lane := F45, b__law_lane := F45.binds (ps := ["_law_left", "_law_right", "_law_split", "_law_levels"]) (fun _ _ _ _ _ _ us hl => match us, hl with | [_, _, _, _], _ => rfl), g__law_lane := (glo_at X G (c.fact 0) 43), f__law_rule := He.fAd K ("_law_rule", none), d__law_rule := d46, F__law_rule := F46, b__law_rule := F46.binds (ps := ["_law_rows"]) (fun _ _ _ _ _ _ us hl => match us, hl with | [_], _ => rfl), g__law_rule := (glo_at X G (c.fact 0) 44), f__law_matched := He.fAd K ("_law_matched", none), d__law_matched := d47, F__law_matched := F47, b__law_matched := F47.binds (ps := ["_law_state", "_law_top"]) (fun _ _ _ _ _ _ us hl => match us, hl with | [_, _], _ => rfl), g__law_matched := (glo_at X G (c.fact 0) 45), f__law_raw_rule := He.fAd K ("_law_raw_rule", none), d__law_raw_rule := d48, F__law_raw_rule := F48, b__law_raw_rule := F48.binds (ps := ["_law_state", "_law_many", "_law_size", "_law_top"]) (fun _ _ _ _ _ _ us hl => match us, hl with | [_, _, _, _], _ => rfl), g__law_raw_rule := (glo_at X G (c.fact 0) 46), f__law_two := He.fAd K ("_law_two", none), d__law_two := d49, F__law_two := F49, b__law_two := F49.binds (ps := ["_law_state"]) (fun _ _ _ _ _ _ us hl => match us, hl with | [_], _ => rfl), g__law_two := (glo_at X G (c.fact 0) 47), f__law_walk := He.fAd K ("_law_walk", none), d__law_walk := d50, F__law_walk := F50, b__law_walk := F50.binds (ps := ["_law_rules", "_law_heap_here", "_law_limit"]) (fun _ _ _ _ _ _ us hl => match us, hl with | [_, _, _], _ => rfl), g__law_walk := (glo_at X G (c.fact 0) 48), f_is_walk := He.fAd K ("is_walk", none), d_is_walk := d51, F_is_walk := F51, b_is_walk := F51.binds (ps := ["sided", "rows"]) (fun _ _ _ _ _ _ us hl => match us, hl with | [_, _], _ => rfl), g_is_walk := (glo_at X G (c.fact 0) 49), f_law := He.fAd K ("law", none), d_law := d52, F_law := F52, b_law := F52.binds (ps := ["_law_script"]) (fun _ _ _ _ _ _ us hl => match us, hl with | [_], _ => rfl), g_law := (glo_at X G (c.fact 0) 50), ca := fun n => He.ga K (exN n), xf := xc_ok X G (c.fact 6), no_17_part := noat_at (xi_ok (c.fact 7)).2.2.2 0, fI_17 := He.fAd K ("NoHeap", some "__init__"), dI_17 := dI17, FI_17 := FI17, bI_17 := FI17.binds (ps := ["self", "part"]) (fun _ _ _ _ _ _ us hl => match us, hl with | [_, _], _ => rfl), iC_17 := (xi_ok (c.fact 7)).1, tI_17 := (xi_ok (c.fact 7)).2.1, oex_17 := (xi_ok (c.fact 7)).2.2.1, no_18_number := noat_at (xi_ok (c.fact 8)).2.2.2 0, fI_18 := He.fAd K ("NotKept", some "__init__"), dI_18 := dI18, FI_18 := FI18, bI_18 := FI18.binds (ps := ["self", "number"]) (fun _ _ _ _ _ _ us hl => match us, hl with | [_, _], _ => rfl), iC_18 := (xi_ok (c.fact 8)).1, tI_18 := (xi_ok (c.fact 8)).2.1, oex_18 := (xi_ok (c.fact 8)).2.2.1, no_19_choice := noat_at (xi_ok (c.fact 9)).2.2.2 0, no_19_one := noat_at (xi_ok (c.fact 9)).2.2.2 1, no_19_other := noat_at (xi_ok (c.fact 9)).2.2.2 2, fI_19 := He.fAd K ("Unmatched", some "__init__"), dI_19 := dI19, FI_19 := FI19, bI_19 := FI19.binds (ps := ["self", "choice", "one", "other"]) (fun _ _ _ _ _ _ us hl => match us, hl with | [_, _, _, _], _ => rfl), iC_19 := (xi_ok (c.fact 9)).1, tI_19 := (xi_ok (c.fact 9)).2.1, oex_19 := (xi_ok (c.fact 9)).2.2.1, no_20_place := noat_at (xi_ok (c.fact 10)).2.2.2 0, fI_20 := He.fAd K ("TooLong", some "__init__"), dI_20 := dI20, FI_20 := FI20, bI_20 := FI20.binds (ps := ["self", "place"]) (fun _ _ _ _ _ _ us hl => match us, hl with | [_, _], _ => rfl), iC_20 := (xi_ok (c.fact 10)).1, tI_20 := (xi_ok (c.fact 10)).2.1, oex_20 := (xi_ok (c.fact 10)).2.2.1, z_all := free_at X G (c.fact 1) 0, z_bool := free_at X G (c.fact 1) 1, z_enumerate := free_at X G (c.fact 1) 2, z_int := free_at X G (c.fact 1) 3, z_isinstance := free_at X G (c.fact 1) 4, z_len := free_at X G (c.fact 1) 5, z_list := free_at X G (c.fact 1) 6, z_max := free_at X G (c.fact 1) 7, z_min := free_at X G (c.fact 1) 8, z_range := free_at X G (c.fact 1) 9, z_set := free_at X G (c.fact 1) 10, z_sorted := free_at X G (c.fact 1) 11, z_str := free_at X G (c.fact 1) 12, z_sum := free_at X G (c.fact 1) 13, z_tuple := free_at X G (c.fact 1) 14, z_zip := free_at X G (c.fact 1) 15 }⟩
theorem facts {P : Program} {w : World} {K : PySem.W.Frag} {h : Heap} {mg : Str → Option Value} {fa : Addr} (X : K.In h) (G : h.Ns mainGlobals mg) (hfa : mg "law" = some (.ref fa)) (c : SaysW factsL defsL tabsL w K) :
    ∃ fd : FuncData, (∀ (s : Shared) (v : Value), BindsTo s fd ⟨[v], []⟩ [("_law_script", v)]) ∧ ∀ base : Heap, K.In base → base.Ns mainGlobals mg → FnOk P w K mg base (L2.CX P w) 27 fa fd ["_law_script"] (spLaw K) := by
  obtain ⟨T⟩ := txt_of X G c
  have e := hfa.symm.trans T.g_law
  simp only [Option.some.injEq, Value.ref.injEq] at e
  subst e
  exact ⟨T.d_law, fun s v => binds_of T.F_law (ps := ["_law_script"]) (fun _ _ _ _ _ _ us hl => match us, hl with | [_], _ => rfl) s [v] rfl, fun base _ _ => ok_law T⟩
end K54
open PySem PySem.W PyProof.Rows
set_option maxHeartbeats 0 in
theorem PySem.Challenge.cw_shutpairs_k54_whole_each_walk_leads_back_holds : PySem.Challenge.rw_shutpairs_k54_whole_each_walk_leads_back.Holds := by
  w_on; o_law
  refine HandSHeadRun.head_any (r := OpenLaw.row PySem.Challenge.rw_shutpairs_k54_whole_each_walk_leads_back) (q := view (OpenLaw.row PySem.Challenge.rw_shutpairs_k54_whole_each_walk_leads_back).prog [69]) (H := K54.hk) (ob := K54.ob) (M := 40000) (loose := K54.names) (d := HandSHeadRun.topDef (OpenLaw.row PySem.Challenge.rw_shutpairs_k54_whole_each_walk_leads_back).prog 69) (kwd := []) K54.ob_eq
    (by kernel_rfl) (fun s => by kernel_rfl) K54.run (by kernel_rfl) (by kernel_rfl) (by kernel_rfl) (by rfl) (by first | assumption | decide +kernel) (by decide +kernel) ⟨rfl, rfl, rfl, rfl, rfl, by decide +kernel⟩ ?hw ?hc
  case hw => w_witness2
  case hc =>
    refine Dt.walk_ofW (l := PySem.Challenge.rw_shutpairs_k54_whole_each_walk_leads_back) (n := 63) (k := 27) (x := "_law_script") (CX := fun w => L2.CX PySem.Challenge.rw_shutpairs_k54_whole_each_walk_leads_back.prog w) rfl (by decide) (by kernel_rfl) ⟨rfl, by decide, by decide⟩ ?F (fun _ _ _ _ _ h => by obtain ⟨_, _, _, _, _, _, _, _, _, _, _, _, z⟩ := h; exact z.elim)
    intro w mg fa h Y G hmg0
    obtain ⟨K, KX, c⟩ := Y
    have hmg : mg ("law" : PySem.Str) = some (.ref fa) := by
      have e : (HandSHeadRun.topDef (OpenLaw.row PySem.Challenge.rw_shutpairs_k54_whole_each_walk_leads_back).prog 69).name = ("law" : PySem.Str) := by kernel_rfl
      rw [← e]
      exact hmg0
    obtain ⟨fd, hb, hF⟩ := K54.facts (P := (PySem.Challenge.rw_shutpairs_k54_whole_each_walk_leads_back).prog) (w := w) KX G hmg c
    exact ⟨K, fd, Dt.spLaw K, KX, hb, fun H a ns hl hO hS => ⟨a, ns, rfl, hS, hl, fun _ => rfl⟩, hF⟩
